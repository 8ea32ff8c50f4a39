import PyProof.Rows.All
import Wide.All
import OpenK.AllK
import Wide.FinOn
import HandS.ForMost
import HandS.Exc
import HandS.Lambda
import HandS.HeadHook1
import HandS.IsInst
import HandS.DictComp
import HandS.Zip
import HandS.Wide
import HandS.TupAny
import HandS.TupLe
import HandS.ForExc
import HandS.ExcCtx
import HandS.HeadHook2
import HandS.Defaults
import HandS.More
import KE.KDictPairs
import KE.SortData
import KE.OsSortAny
import HandS.HeadNt
import HandS.Head0
import HandS.Head1
import HandS.Head2
import HandS.HeadEnd
import HandS.HeadHook3
import HandS.HeadHook4
import HandS.HeadWalk
import HandS.HotCalls
import HandS.TryMany
import HandS.ExcIs
import HandS.RaiseMore
import HandS.Strs
import HandS.SetFor
import HandS.Text
import KE.KeyNested
import KE.DataCmp
import HandS.Style
import KE.GoesMore
import KE.DataMinMax
import HandS.SortKw
import HandS.TupMul
import KE.KDictZip
import KE.KDictItemsList
import HandS.Conv
import HandS.ExcValue
import HandS.FStr
import KE.SortKeyHeap
import HandS.Deep
import KE.DataMinKey
import HandS.ExcInit
import HandS.ExcField
import HandS.ClsMeth
import KE.KExcIs
import PyProof.ReprRoads
import PyProof.ReprLen
import KE.KStateDown
import PySem.Challenge.RW_castinghall_k30_whole_patterns
set_option Elab.async false
set_option linter.all false
set_option maxRecDepth 100000
set_option maxHeartbeats 0
namespace Mi
open PySem L2
abbrev Fg := PySem.W.Frag
def C1 : List Str := ["BadWord", "BadStuff", "BadWish", "BadLoad"]
def C2 : List Str := ["BadNumber", "BadLots", "BadCharge"]
def C3 : List Str := ["BadPaper"]
def C4 : List Str := ["BadMoulds", "Taken", "NoName", "TooMuch"]
def C5 : List Str := ["Nothing", "Full", "BadText"]
def CL : List Str := C1 ++ C2 ++ C3 ++ C4 ++ C5
def decO (a b : Option (Option Value)) : Bool := decide (a = b)
def excB (K : Fg) (x : Str) : Bool :=
  decO (PySem.W.findIn K (.ref (He.ga K x)) "__getattribute__") (some (some (.builtin "BaseException.__getattribute__"))) && (decO (PySem.W.findIn K (.ref (He.ga K x)) "__getattr__") (some none) && (decide (PySem.W.subIn K (.ref (He.ga K x)) (.type "BaseException") = some true) && (PySem.W.hasDictIn K (He.ga K x) &&
  (decO (PySem.W.findIn K (.ref (He.ga K x)) "__class__") (some (some (.builtin "object.__class__"))) && (decO (PySem.W.specialIn K (.builtin "object.__class__") "__get__") (some (some (.builtin "getset_descriptor.__get__"))) && (decide (PySem.W.takesIn K (.builtin "object.__class__") = some true) && (decide (PySem.W.mroIn K (He.ga K x) (.type "object") = some true) &&
  ((CL.all fun y => decide (PySem.W.kitOne K (.ref (He.ga K x)) (.ref (He.ga K y)) = some (decide (x = y)))) && (decide (PySem.W.kitOne K (.ref (He.ga K x)) (.type "ValueError") = some true) && (decide (PySem.W.exmOne K (.ref (He.ga K x)) (.ref (He.ga K "TooMuch")) = some false) && (decide (PySem.W.exmOne K (.ref (He.ga K x)) (.ref (He.ga K "CastError")) = some true) && (decide (x ∈ CL) && (He.Fa.exc x).ok K))))))))))))
def gloB (K : Fg) (x : Str) : Bool := (He.Fa.glo x).ok K
def toldB (ns : List Str) (K : Fg) : Bool := ns.all (excB K) && (CL.all (gloB K) && gloB K "CastError")
def nsX : List Str := ["BadLots", "BadMoulds", "Full"]
abbrev tmA (K : Fg) : Addr := He.ga K "TooMuch"
abbrev ceA (K : Fg) : Addr := He.ga K "CastError"
abbrev tmI (K : Fg) : Addr := He.fAd K ("TooMuch", some "__init__")
def apartB (tf : List He.Defn) (K : Fg) : Bool := tf.all fun p => tf.all fun p' => decide ((He.cT K p).2 = (He.cT K p').2 → p = p')
def sysB (K : Fg) : Bool := (K.lookup PySem.sysModules).isSome
def asR (g : Addr → Option Obj) (n : Nat) : List Addr := He.asD g n ++ [PySem.cStatics, PySem.sysModules]
def frR (n : Nat) (g : Addr → Option Obj) : Fg := He.frT g (asR g n)
def obsR (n : Nat) (fa : List He.Fa) (fn : List He.DefD) (ts : List He.Tab) (tf : List He.Defn) (ex : Fg → Bool) (g : Addr → Option Obj) : He.AlX := (He.obsT fa fn ts (frR n g), ex (frR n g) && He.tabsB g tf (frR n g))
theorem saysR_of {n : Nat} {fa : List He.Fa} {fn : List He.DefD} {ts : List He.Tab} {tf : List He.Defn} {ex : Fg → Bool} {w : World} {h : Heap} (e : obsR n fa fn ts tf ex h.get? = He.valX fn ts w) : He.SaysX fa fn ts tf ex w h (frR n h.get?) := by
  obtain ⟨e1, e2⟩ := Prod.mk.inj (show (He.obsT fa fn ts (frR n h.get?), ex (frR n h.get?) && He.tabsB h.get? tf (frR n h.get?)) = (He.valT fn ts w, true) from e)
  obtain ⟨x1, x2⟩ := Bool.and_eq_true_iff.mp e2
  have tab : ∀ p ∈ tf, PySem.W.codeHdIn (frR n h.get?) (He.cT (frR n h.get?) p).1 (He.cT (frR n h.get?) p).2 = true ∧ ∃ o, h.get? (He.cT (frR n h.get?) p).2 = some o ∧ He.emptyTab o = true := fun p hp => by
    obtain ⟨y1, y2⟩ := Bool.and_eq_true_iff.mp (List.all_eq_true.mp x2 p hp)
    cases q : h.get? (He.cT (frR n h.get?) p).2 with
    | none => rw [q] at y2; cases y2
    | some o => rw [q] at y2; exact ⟨y1, o, rfl, y2⟩
  refine ⟨e1, x1, fun p hp => (tab p hp).1, fun p hp => ?_, fun p hp => ?_⟩
  · obtain ⟨_, o, q, z⟩ := tab p hp; exact He.frT_none q z
  · obtain ⟨_, o, q, z⟩ := tab p hp; rw [q, He.emptyTab_eq z]
def hookR (n : Nat) (fa : List He.Fa) (fn : List He.DefD) (ts : List He.Tab) (tf : List He.Defn) (ex : Fg → Bool) : PySem.W.Hook where
  α := He.AlX
  obs := fun s => obsR n fa fn ts tf ex s.heap.get?
  val := fun w => He.valX fn ts w
  says := fun w h => ∃ K : Fg, K.In h ∧ He.SaysX fa fn ts tf ex w h K
  of := fun _ _ e => ⟨_, He.frT_in, saysR_of e⟩
  keeps := fun _ _ _ ⟨K, hK, c⟩ k => ⟨K, PySem.W.Frag.In.keeps hK k, ⟨c.t, c.more, c.hd, c.out, fun p hp => k _ _ (c.empty p hp)⟩⟩
theorem obsR_eq {n : Nat} {fa : List He.Fa} {fn : List He.DefD} {ts : List He.Tab} {tf : List He.Defn} {ex : Fg → Bool} {g : Addr → Option Obj} {s : Shared} (h : ∀ a, g a = s.heap.get? a) : obsR n fa fn ts tf ex g = (hookR n fa fn ts tf ex).obs s := by
  have e : g = s.heap.get? := funext h
  subst e
  rfl
def top (i : Nat) : Stmt := PySem.Challenge.pw_castinghall_k30_whole_patterns.main.body.getD i (.Pass ⟨0, 0, 0, 0⟩)
end Mi
namespace Mi
open PySem PySem.Spec PyProof.Rows L2
def e__law_cell : He.DefD := ⟨("_law_cell", none), "_law_cell", "_law_cell", defArgs (top 37), defBody (top 37), defScope (top 37), [], []⟩
def e__law_rounds : He.DefD := ⟨("_law_rounds", none), "_law_rounds", "_law_rounds", defArgs (top 40), defBody (top 40), defScope (top 40), [], []⟩
def e__law_drawn : He.DefD := ⟨("_law_drawn", none), "_law_drawn", "_law_drawn", defArgs (top 38), defBody (top 38), defScope (top 38), [], []⟩
def e__law_roll : He.DefD := ⟨("_law_roll", none), "_law_roll", "_law_roll", defArgs (top 39), defBody (top 39), defScope (top 39), [], []⟩
def e__law_bench : He.DefD := ⟨("_law_bench", none), "_law_bench", "_law_bench", defArgs (top 44), defBody (top 44), defScope (top 44), [], []⟩
def e_is_word : He.DefD := ⟨("is_word", none), "is_word", "is_word", defArgs (top 20), defBody (top 20), defScope (top 20), [], []⟩
def e_is_whole : He.DefD := ⟨("is_whole", none), "is_whole", "is_whole", defArgs (top 19), defBody (top 19), defScope (top 19), [], []⟩
def e_is_pattern : He.DefD := ⟨("is_pattern", none), "is_pattern", "is_pattern", defArgs (top 25), defBody (top 25), defScope (top 25), [], []⟩
def e_is_tuple : He.DefD := ⟨("is_tuple", none), "is_tuple", "is_tuple", defArgs (top 21), defBody (top 21), defScope (top 21), [], []⟩
def e_need_wanted : He.DefD := ⟨("need_wanted", none), "need_wanted", "need_wanted", defArgs (top 26), defBody (top 26), defScope (top 26), [], []⟩
def e_worked : He.DefD := ⟨("worked", none), "worked", "worked", defArgs (top 27), defBody (top 27), defScope (top 27), [], []⟩
def e_end_by : He.DefD := ⟨("end_by", none), "end_by", "end_by", defArgs (top 30), defBody (top 30), defScope (top 30), [], []⟩
def e_waited : He.DefD := ⟨("waited", none), "waited", "waited", defArgs (top 31), defBody (top 31), defScope (top 31), [], []⟩
def e__law_turns : He.DefD := ⟨("_law_turns", none), "_law_turns", "_law_turns", defArgs (top 43), defBody (top 43), defScope (top 43), [], []⟩
def e_need_few : He.DefD := ⟨("need_few", none), "need_few", "need_few", defArgs (top 32), defBody (top 32), defScope (top 32), [], []⟩
def e_turns_of : He.DefD := ⟨("turns_of", none), "turns_of", "turns_of", defArgs (top 23), defBody (top 23), defScope (top 23), [], []⟩
def e_least_made : He.DefD := ⟨("least_made", none), "least_made", "least_made", defArgs (top 33), defBody (top 33), defScope (top 33), [], []⟩
def e_best_made : He.DefD := ⟨("best_made", none), "best_made", "best_made", defArgs (top 34), defBody (top 34), defScope (top 34), [], []⟩
def e_first_turn : He.DefD := ⟨("first_turn", none), "first_turn", "first_turn", defArgs (top 35), defBody (top 35), defScope (top 35), [], []⟩
def e__law_best_turn_right : He.DefD := ⟨("_law_best_turn_right", none), "_law_best_turn_right", "_law_best_turn_right", defArgs (top 45), defBody (top 45), defScope (top 45), [], []⟩
def e_bench_rows : He.DefD := ⟨("bench_rows", none), "bench_rows", "bench_rows", defArgs (top 28), defBody (top 28), defScope (top 28), [], []⟩
def e_mends : He.DefD := ⟨("mends", none), "mends", "mends", defArgs (top 29), defBody (top 29), defScope (top 29), [], []⟩
def e__law_term : He.DefD := ⟨("_law_term", none), "_law_term", "_law_term", defArgs (top 41), defBody (top 41), defScope (top 41), [], []⟩
def e__law_told : He.DefD := ⟨("_law_told", none), "_law_told", "_law_told", defArgs (top 42), defBody (top 42), defScope (top 42), [], []⟩
def e_law : He.DefD := ⟨("law", none), "law", "law", defArgs (top 46), defBody (top 46), defScope (top 46), [], []⟩
def fn : List He.DefD := [e__law_cell, e__law_rounds, e__law_drawn, e__law_roll, e__law_bench, e_is_word, e_is_whole, e_is_pattern, e_is_tuple, e_need_wanted, e_worked, e_end_by, e_waited, e__law_turns, e_need_few, e_turns_of, e_least_made, e_best_made, e_first_turn, e__law_best_turn_right, e_bench_rows, e_mends, e__law_term, e__law_told, e_law]
def fa0 : List He.Fa := [.glo "_law_cell", .glo "_law_rounds", .glo "_law_drawn", .glo "_law_roll", .glo "_law_bench", .glo "is_word", .glo "is_whole", .glo "is_pattern", .glo "is_tuple", .glo "need_wanted", .glo "worked", .glo "end_by", .glo "waited", .glo "_law_turns", .glo "need_few", .glo "turns_of", .glo "least_made", .glo "best_made", .glo "first_turn", .glo "_law_best_turn_right", .glo "bench_rows", .glo "mends", .glo "_law_term", .glo "_law_told", .glo "law", .free "len", .free "range", .free "max", .free "min", .free "dict"]
def fa1 : List He.Fa := [.free "sorted", .free "isinstance", .free "str", .free "all", .free "int", .free "bool", .free "tuple", .free "list", .free "sum", .free "enumerate", .free "ValueError", .str "SMALL" "abcdefghijklmnopqrstuvwxyz"]
def fa : List He.Fa := fa0 ++ fa1
def loose0 : List Str := ["CastError", "TooMuch", "BadWord", "BadStuff", "BadWish", "BadLoad", "BadNumber", "BadLots", "BadCharge", "BadPaper", "BadMoulds", "Taken", "NoName", "Nothing", "Full", "BadText", "SMALL", "is_whole", "is_word", "is_tuple", "turns_of", "is_pattern", "need_wanted", "worked", "bench_rows", "mends", "end_by", "waited", "need_few", "least_made"]
def loose1 : List Str := ["best_made", "first_turn", "_law_cell", "_law_drawn", "_law_roll", "_law_rounds", "_law_term", "_law_told", "_law_turns", "_law_bench", "_law_best_turn_right"]
def loose : List Str := loose0 ++ loose1
abbrev R : PySem.W.OpenRow := PySem.W.OpenLaw.row PySem.Challenge.rw_castinghall_k30_whole_patterns
def tf : List He.Defn := [("law", none)]
def ex (K : Fg) : Bool := sysB K && (toldB nsX K && (apartB tf K))
abbrev hk : PySem.W.Hook := hookR 4 fa fn [] tf ex
def ob (s : PySem.W.SharedT) : He.AlX := obsR 4 fa fn [] tf ex (HandSHeadRun.getT s)
theorem ob_eq (s : PySem.W.SharedT) : ob s = hk.obs s.abs := obsR_eq (HandSHeadRun.getT_eq s)
theorem run (w : World) : HandSHeadRun.RunEq R (PySem.W.view R.prog [46]) hk ob 20000 loose w := by
  intro os
  kernel_rfl
end Mi
set_option Elab.async false
set_option linter.all false
set_option maxRecDepth 100000
set_option maxHeartbeats 4000000
namespace Mi
open PySem L2
structure Exn where
  cls : Str
  lacks : Option Int := none
deriving DecidableEq
/-- data, with places of the store, refusals, functions -/
inductive D where
  | none
  | bool (b : Bool)
  | int (i : Int)
  | str (s : Str)
  | list (xs : List D)
  | tuple (xs : List D)
  | dict (kvs : List (D × D))
  | loc (n : Nat)
  | exc (e : Exn)
  | fn (f : Addr)
mutual
def D.py : D → PyData
  | .none => .none
  | .bool b => .bool b
  | .int i => .int i
  | .str s => .str s
  | .list xs => .list (pys xs)
  | .tuple xs => .tuple (pys xs)
  | .dict kvs => .dict (pykv kvs)
  | .loc _ => .none
  | .exc _ => .none
  | .fn _ => .none
def pys : List D → List PyData
  | [] => []
  | x :: xs => x.py :: pys xs
def pykv : List (D × D) → List (PyData × PyData)
  | [] => []
  | (k, v) :: kvs => (k.py, v.py) :: pykv kvs
end
theorem pys_map : ∀ xs : List D, pys xs = xs.map D.py
  | [] => rfl
  | x :: xs => by rw [pys, pys_map xs]; rfl
def D.eqv (d e : D) : Bool := PyData.eqv d.py e.py
def D.eqvAll (xs ys : List D) : Bool := PyData.eqvAll (pys xs) (pys ys)
def D.canLay0 (d : D) : Bool := PyData.canLay0 d.py
def D.canLayAll0 (xs : List D) : Bool := PyData.canLayAll0 (pys xs)
def D.depth (d : D) : Nat := PyData.depth d.py
def D.depthAll (xs : List D) : Nat := PyData.depthAll (pys xs)
/-- a cell of the store -/
inductive Cell where
  | lst (xs : List D)
  | dic (kvs : List (D × D))
  | tdc (kvs : List (D × D))
  /-- a dict that is walked now: read, not changed -/
  | dlk (kvs : List (D × D))
  | obj (C : Str) (fs : List (Str × D))
  | gone
abbrev Sto := List Cell
abbrev St := L2.St
/-- the tables, and how a dict with tuples as keys stands -/
structure Tb where
  tabs : List (Addr × Str)
  codes : List (Addr × Str) := []
  td : Addr → List (V × V) → List (D × D) → HO → Prop
instance : Coe Tb (List (Addr × Str)) := ⟨Tb.tabs⟩
/-- the tables stand, and the code objects that are told -/
def TabsC (T : Tb) (H : Hp) : Prop := LamX.Tabs T.tabs H ∧ ∀ p ∈ T.codes, H p.1 = some (LamX.CodeO p.1 p.2)
theorem TabsC.ext {T : Tb} {H H' : Hp} (t : TabsC T H) (e : ∀ b o, H b = some o → H' b = some o) : TabsC T H' := ⟨t.1.ext e, fun p hp => e _ _ (t.2 p hp)⟩
theorem TabsC.of {T : Tb} {H H' : Hp} (t : TabsC T H) (e : ∀ b o, H b = some o → ((∃ ps, o = .tbl ps) ∨ ∃ x q, o = LamX.CodeO x q) → H' b = some o) : TabsC T H' := by
  refine ⟨fun p hp => ?_, fun p hp => e _ _ (t.2 p hp) (.inr ⟨_, _, rfl⟩)⟩
  obtain ⟨ps, h1, h2, h3⟩ := t.1 p hp
  refine ⟨ps, e _ _ h1 (.inl ⟨_, rfl⟩), h2, fun pos cv hcv => ?_⟩
  obtain ⟨x, e1, e2⟩ := h3 pos cv hcv
  exact ⟨x, e1, e _ _ e2 (.inr ⟨_, _, rfl⟩)⟩
structure Wd where
  hp : Hp
  m : List Addr
instance : CoeFun Wd (fun _ => Addr → Option HO) := ⟨Wd.hp⟩
instance : Coe Wd Hp := ⟨Wd.hp⟩
abbrev wupd (G : Wd) (p : Addr) (o : HO) : Wd := ⟨upd G.hp p o, G.m⟩
structure Le (G G' : Wd) : Prop where
  h : ∀ a o, G a = some o → G' a = some o
  m : G.m <+: G'.m
def Lh (G : Wd) (H : Hp) : Prop := ∀ a o, G a = some o → H a = some o
theorem Le.refl (G : Wd) : Le G G := ⟨fun _ _ h => h, List.prefix_refl _⟩
theorem Le.trans {G G1 G2 : Wd} (a : Le G G1) (b : Le G1 G2) : Le G G2 := ⟨fun x o h => b.h x o (a.h x o h), a.m.trans b.m⟩
theorem Le.lh {G G1 : Wd} {H : Hp} (a : Le G G1) (b : Lh G1 H) : Lh G H := fun x o h => b x o (a.h x o h)
theorem Le.upd {G : Wd} {p : Addr} {o : HO} (h : G p = none) : Le G (wupd G p o) := ⟨fun a u e => by
  show L2.upd G.hp p o a = some u
  rw [upd_ne (ne_of_none e h)]; exact e, List.prefix_refl _⟩
theorem Le.loc {G G' : Wd} (l : Le G G') {n : Nat} {a : Addr} (h : G.m[n]? = some a) : G'.m[n]? = some a := by
  obtain ⟨t, e⟩ := l.m
  rw [← e, List.getElem?_append_left (List.getElem?_eq_some_iff.mp h).1]; exact h
structure Sub (G H : Hp) : Prop where
  rd : ∀ a u, (∀ o w, u ≠ .frz o w) → Rd G a u → Rd H a u
  fz : ∀ a o xs, G a = some (.frz o (.tup xs)) → H a = some (.frz o (.tup xs))
  fd : ∀ a o xs, G a = some (.frz o (.dK xs)) → H a = some (.frz o (.dK xs))
  ex : ∀ a φ, G a = some (.ext φ) → H a = some (.ext φ)
  xd : ∀ a fs, G a = some (.xd fs) → H a = some (.xd fs)
/-- a dict that is locked for good -/
def DicAt (G : Hp) (a : Addr) (kvs : List (Key × V)) : Prop := ∃ o, G a = some (.frz o (.dK kvs))
theorem DicAt.rd {G : Hp} {a : Addr} {kvs : List (Key × V)} (h : DicAt G a kvs) : Rd G a (.dK kvs) := .inr h
theorem DicAt.sub {G H : Hp} {a : Addr} {kvs : List (Key × V)} (h : DicAt G a kvs) (s : Sub G H) : DicAt H a kvs := h.imp fun o e => s.fd _ _ _ e
/-- a tuple whose object has no dict of its own -/
def TupAt (K : Fg) (G : Hp) (a : Addr) (xs : List V) : Prop := (∃ o, G a = some (.frz o (.tup xs)) ∧ o.dict = none) ∨
  ∃ (o : Obj) (its : Array Value) (n : Nat), K.lookup a = some o ∧ o.cls = .type "tuple" ∧ o.dict = none ∧ o.data = .seq its n ∧ its.size ≤ sizeLine ∧ Vals xs its.toList
theorem TupAt.sq {K : Fg} {G : Hp} {a : Addr} {xs : List V} (h : TupAt K G a xs) : SqT K G a xs := by
  rcases h with ⟨o, h, _⟩ | ⟨o, its, n, h1, h2, _, h3⟩
  · exact .inl (.inr ⟨o, h⟩)
  · exact .inr ⟨o, its, n, h1, h2, h3⟩
theorem TupAt.sub {K : Fg} {G H : Hp} {a : Addr} {xs : List V} (h : TupAt K G a xs) (s : Sub G H) : TupAt K H a xs := by
  rcases h with ⟨o, h, d⟩ | h
  · exact .inl ⟨o, s.fz _ _ _ h, d⟩
  · exact .inr h
theorem sub_of {G H : Hp} (h : ∀ a o, G a = some o → H a = some o) : Sub G H := ⟨fun a o _ r => by
  rcases r with r | ⟨ob, r⟩
  · exact .inl (h _ _ r)
  · exact .inr ⟨ob, h _ _ r⟩, fun a o xs e => h _ _ e, fun a o xs e => h _ _ e, fun a φ e => h _ _ e, fun a fs e => h _ _ e⟩
theorem Le.sub {G G' : Wd} (h : Le G G') : Sub G G' := sub_of h.h
theorem Lh.sub {G : Wd} {H : Hp} (h : Lh G H) : Sub G H := sub_of h
theorem sqL_sub {K : Fg} {G H : Hp} {a : Addr} {xs : List V} (h : SqL K G a xs) (s : Sub G H) : SqL K H a xs := by
  rcases h with h | h
  · exact .inl (s.rd _ _ (fun _ _ z => by cases z) h)
  · exact .inr h
theorem sqT_sub {K : Fg} {G H : Hp} {a : Addr} {xs : List V} (h : SqT K G a xs) (s : Sub G H) : SqT K H a xs := by
  rcases h with h | h
  · exact .inl (s.rd _ _ (fun _ _ z => by cases z) h)
  · exact .inr h
def keyD : Key → D
  | .inl i => .int i
  | .inr s => .str s
/-- a refusal's object: its class, its dict -/
def XcO (cls : Value) (d : Option Addr) (a : Addr) : HO := .ext fun h => ∃ (oe : Obj) (vs : Array Value), h.get? a = some oe ∧ oe.cls = cls ∧ oe.dict = d ∧ oe.data = .fields vs
def ExcAt (K : Fg) (G : Hp) (a : Addr) (e : Exn) : Prop := ∃ d : Option Addr, G a = some (XcO (.ref (He.ga K e.cls)) d a) ∧ match e.lacks with
  | none => d = none
  | some n => ∃ dd, d = some dd ∧ G dd = some (.xd [(("lacks" : Str), V.int n)])
theorem ExcAt.sub {K : Fg} {G H : Hp} {a : Addr} {e : Exn} (h : ExcAt K G a e) (s : Sub G H) : ExcAt K H a e := by
  obtain ⟨d, h1, h2⟩ := h
  refine ⟨d, s.ex _ _ h1, ?_⟩
  cases q : e.lacks with
  | none => simp only [q] at h2; exact h2
  | some n =>
    simp only [q] at h2
    obtain ⟨dd, e1, e2⟩ := h2
    exact ⟨dd, e1, s.xd _ _ e2⟩
mutual
inductive Dq (K : Fg) (G : Wd) : V → D → Prop
  | non : Dq K G .non .none
  | bl (b : Bool) : Dq K G (.bl b) (.bool b)
  | int (i : Int) : Dq K G (.int i) (.int i)
  | str (x : Str) : Dq K G (.str x) (.str x)
  | lst {a : Addr} {xs : List V} {ds : List D} : Rd G a (.lst xs) → DqAll K G xs ds → Dq K G (.ref a) (.list ds)
  | tup {a : Addr} {xs : List V} {ds : List D} : TupAt K G a xs → DqAll K G xs ds → Dq K G (.ref a) (.tuple ds)
  | dic {a : Addr} {kvs : List (Key × V)} {ds : List (D × D)} : DicAt G a kvs → DqKV K G kvs ds → Dq K G (.ref a) (.dict ds)
  | loc {a : Addr} {n : Nat} : G.m[n]? = some a → Dq K G (.ref a) (.loc n)
  | exc {a : Addr} {e : Exn} : ExcAt K G a e → Dq K G (.ref a) (.exc e)
  | fn {a : Addr} : Dq K G (.ref a) (.fn a)
inductive DqAll (K : Fg) (G : Wd) : List V → List D → Prop
  | nil : DqAll K G [] []
  | cons {v : V} {vs : List V} {d : D} {ds : List D} : Dq K G v d → DqAll K G vs ds → DqAll K G (v :: vs) (d :: ds)
inductive DqKV (K : Fg) (G : Wd) : List (Key × V) → List (D × D) → Prop
  | nil : DqKV K G [] []
  | cons {k : Key} {v : V} {kvs : List (Key × V)} {d : D} {ds : List (D × D)} : Dq K G v d → DqKV K G kvs ds → DqKV K G ((k, v) :: kvs) ((keyD k, d) :: ds)
end
mutual
theorem Dq.sub {K : Fg} {G G' : Wd} (s : Sub G G') (pm : ∀ (n : Nat) (a : Addr), G.m[n]? = some a → G'.m[n]? = some a) : ∀ {v : V} {d : D}, Dq K G v d → Dq K G' v d
  | _, _, .non => .non
  | _, _, .bl b => .bl b
  | _, _, .int i => .int i
  | _, _, .str x => .str x
  | _, _, .lst h t => .lst (s.rd _ _ (fun _ _ z => by cases z) h) (DqAll.sub s pm t)
  | _, _, .tup h t => .tup (h.sub s) (DqAll.sub s pm t)
  | _, _, .dic h t => .dic (h.sub s) (DqKV.sub s pm t)
  | _, _, .loc h => .loc (pm _ _ h)
  | _, _, .exc h => .exc (h.sub s)
  | _, _, .fn => .fn
theorem DqAll.sub {K : Fg} {G G' : Wd} (s : Sub G G') (pm : ∀ (n : Nat) (a : Addr), G.m[n]? = some a → G'.m[n]? = some a) : ∀ {vs : List V} {ds : List D}, DqAll K G vs ds → DqAll K G' vs ds
  | _, _, .nil => .nil
  | _, _, .cons h t => .cons (Dq.sub s pm h) (DqAll.sub s pm t)
theorem DqKV.sub {K : Fg} {G G' : Wd} (s : Sub G G') (pm : ∀ (n : Nat) (a : Addr), G.m[n]? = some a → G'.m[n]? = some a) : ∀ {kvs : List (Key × V)} {ds : List (D × D)}, DqKV K G kvs ds → DqKV K G' kvs ds
  | _, _, .nil => .nil
  | _, _, .cons h t => .cons (Dq.sub s pm h) (DqKV.sub s pm t)
end
theorem Dq.le {K : Fg} {G G' : Wd} {v : V} {d : D} (h : Dq K G v d) (l : Le G G') : Dq K G' v d := h.sub l.sub fun _ _ => l.loc
theorem DqAll.le {K : Fg} {G G' : Wd} {v : List V} {d : List D} (h : DqAll K G v d) (l : Le G G') : DqAll K G' v d := h.sub l.sub fun _ _ => l.loc
theorem DqKV.le {K : Fg} {G G' : Wd} {v : List (Key × V)} {d : List (D × D)} (h : DqKV K G v d) (l : Le G G') : DqKV K G' v d := h.sub l.sub fun _ _ => l.loc
theorem Dq.up {K : Fg} {G : Wd} {H : Hp} {v : V} {d : D} (h : Dq K G v d) (l : Lh G H) : Dq K ⟨H, G.m⟩ v d := Dq.sub (G' := ⟨H, G.m⟩) l.sub (fun _ _ z => z) h
theorem DqAll.up {K : Fg} {G : Wd} {H : Hp} {v : List V} {d : List D} (h : DqAll K G v d) (l : Lh G H) : DqAll K ⟨H, G.m⟩ v d := DqAll.sub (G' := ⟨H, G.m⟩) l.sub (fun _ _ z => z) h
theorem DqAll.length {K : Fg} {G : Wd} : ∀ {vs : List V} {ds : List D}, DqAll K G vs ds → vs.length = ds.length
  | _, _, .nil => rfl
  | _, _, .cons _ t => by simp [DqAll.length t]
theorem DqKV.length {K : Fg} {G : Wd} : ∀ {vs : List (Key × V)} {ds : List (D × D)}, DqKV K G vs ds → vs.length = ds.length
  | _, _, .nil => rfl
  | _, _, .cons _ t => by simp [DqKV.length t]
theorem DqAll.app {K : Fg} {G : Wd} : ∀ {vs ws : List V} {ds es : List D}, DqAll K G vs ds → DqAll K G ws es → DqAll K G (vs ++ ws) (ds ++ es)
  | _, _, _, _, .nil, h => h
  | _, _, _, _, .cons h t, h2 => .cons h (DqAll.app t h2)
theorem DqAll.one {K : Fg} {G : Wd} {v : V} {d : D} (h : Dq K G v d) : DqAll K G [v] [d] := .cons h .nil
theorem DqAll.get {K : Fg} {G : Wd} : ∀ {vs : List V} {ds : List D} {i : Nat} {v : V}, DqAll K G vs ds → vs[i]? = some v → ∃ d, ds[i]? = some d ∧ Dq K G v d
  | _, _, _, _, .nil, e => by simp at e
  | _, _, 0, _, .cons h _, e => by simp at e; subst e; exact ⟨_, rfl, h⟩
  | _, _, i + 1, v, .cons _ t, e => by
    obtain ⟨d, h1, h2⟩ := DqAll.get (i := i) (v := v) t (by simpa using e)
    exact ⟨d, by simpa using h1, h2⟩
theorem DqAll.getD {K : Fg} {G : Wd} : ∀ {vs : List V} {ds : List D} {i : Nat} {d : D}, DqAll K G vs ds → ds[i]? = some d → ∃ v, vs[i]? = some v ∧ Dq K G v d
  | _, _, _, _, .nil, e => by simp at e
  | _, _, 0, _, .cons h _, e => by simp at e; subst e; exact ⟨_, rfl, h⟩
  | _, _, i + 1, v, .cons _ t, e => by
    obtain ⟨d, h1, h2⟩ := DqAll.getD (i := i) (d := v) t (by simpa using e)
    exact ⟨d, by simpa using h1, h2⟩
theorem DqAll.take {K : Fg} {G : Wd} : ∀ {vs : List V} {ds : List D} (n : Nat), DqAll K G vs ds → DqAll K G (vs.take n) (ds.take n)
  | _, _, 0, _ => .nil
  | _, _, _ + 1, .nil => .nil
  | _, _, n + 1, .cons h t => .cons h (DqAll.take n t)
theorem DqAll.drop {K : Fg} {G : Wd} : ∀ {vs : List V} {ds : List D} (n : Nat), DqAll K G vs ds → DqAll K G (vs.drop n) (ds.drop n)
  | _, _, 0, h => h
  | _, _, _ + 1, .nil => .nil
  | _, _, n + 1, .cons _ t => DqAll.drop n t
theorem DqAll.set {K : Fg} {G : Wd} {v : V} {d : D} (r : Dq K G v d) : ∀ {vs : List V} {ds : List D} (i : Nat), DqAll K G vs ds → DqAll K G (vs.set i v) (ds.set i d)
  | _, _, _, .nil => .nil
  | _, _, 0, .cons _ t => .cons r t
  | _, _, i + 1, .cons q t => .cons q (DqAll.set r i t)
inductive Res (α : Type) where
  | ok (a : α)
  | exn (e : Exn)
  | stuck
def Res.bind {α β : Type} : Res α → (α → Res β) → Res β
  | .ok a, f => f a
  | .exn e, _ => .exn e
  | .stuck, _ => .stuck
instance : Monad Res where
  pure := Res.ok
  bind := Res.bind
inductive S where
  | d (x : D)
  | ol (xs : List D)
  | od (kvs : List (D × D))
  | dc (xs : List D)
  /-- the store, in the place behind the last name; may it be changed -/
  | sto (rw : Bool) (μ : Sto)
def S.own : S → Bool
  | .d _ => false
  | .sto _ _ => false
  | _ => true
def S.isSto : S → Bool
  | .sto _ _ => true
  | _ => false
abbrev MSt := List (Option S)
inductive Out (α : Type) where
  | ok (a : α) (ρ : MSt)
  | exn (e : Exn) (ρ : MSt)
  | stuck
abbrev MM (α : Type) := MSt → Out α
def MM.bind {α β : Type} (f : MM α) (g : α → MM β) : MM β := fun ρ => match f ρ with
  | .ok a ρ' => g a ρ'
  | .exn e ρ' => .exn e ρ'
  | .stuck => .stuck
def MM.pure {α : Type} (a : α) : MM α := fun ρ => .ok a ρ
def lift {α : Type} (r : Res α) : MM α := fun ρ => match r with
  | .ok a => .ok a ρ
  | .exn e => .exn e ρ
  | .stuck => .stuck
def stuck {α : Type} : MM α := fun _ => .stuck
instance : Monad MM where
  pure := MM.pure
  bind := MM.bind
def RS (K : Fg) (da : Addr) (G : Wd) (H : Hp) : S → V → Prop
  | .d x, v => Dq K G v x
  | .ol xs, v => ∃ a vs, v = .ref a ∧ G a = none ∧ H a = some (.lst vs) ∧ DqAll K G vs xs
  | .od kvs, v => ∃ a es, v = .ref a ∧ G a = none ∧ H a = some (.dK es) ∧ DqKV K G es kvs
  | .dc xs, v => v = .ref da ∧ ∃ a vs, v = .ref a ∧ G a = none ∧ H a = some (.lst vs) ∧ DqAll K G vs xs
  | .sto _ _, _ => False
/-- the fields of an object -/
inductive DqF (K : Fg) (G : Wd) : List (Str × V) → List (Str × D) → Prop
  | nil : DqF K G [] []
  | cons {x : Str} {v : V} {d : D} {vs : List (Str × V)} {ds : List (Str × D)} : Dq K G v d → DqF K G vs ds → DqF K G ((x, v) :: vs) ((x, d) :: ds)
theorem DqF.le {K : Fg} {G G' : Wd} (l : Le G G') : ∀ {vs : List (Str × V)} {ds : List (Str × D)}, DqF K G vs ds → DqF K G' vs ds
  | _, _, .nil => .nil
  | _, _, .cons h t => .cons (h.le l) (t.le l)
/-- a dict whose keys are tuples of data: its entries -/
inductive DqKT (K : Fg) (G : Wd) : List (V × V) → List (D × D) → Prop
  | nil : DqKT K G [] []
  | cons {u v : V} {k d : D} {vs : List (V × V)} {ds : List (D × D)} : Dq K G u k → Dq K G v d → DqKT K G vs ds → DqKT K G ((u, v) :: vs) ((k, d) :: ds)
theorem DqKT.le {K : Fg} {G G' : Wd} (l : Le G G') : ∀ {vs : List (V × V)} {ds : List (D × D)}, DqKT K G vs ds → DqKT K G' vs ds
  | _, _, .nil => .nil
  | _, _, .cons k h t => .cons (k.le l) (h.le l) (t.le l)
/-- what stands at a cell's address -/
inductive CellAt (K : Fg) (T : Tb) (G : Wd) (H : Hp) (a : Addr) : Cell → Prop
  | lst {vs : List V} {xs : List D} : H a = some (.lst vs) → DqAll K G vs xs → CellAt K T G H a (.lst xs)
  | dic {es : List (Key × V)} {kvs : List (D × D)} : H a = some (.dK es) → DqKV K G es kvs → CellAt K T G H a (.dic kvs)
  | tdc {es : List (V × V)} {kvs : List (D × D)} {o : HO} : T.td a es kvs o → (∀ x q, o ≠ LamX.CodeO x q) → (∀ ps, o ≠ .tbl ps) → (∀ x, o ≠ .own x) → H a = some o → DqKT K G es kvs → CellAt K T G H a (.tdc kvs)
  | dlk {ob : Obj} {es : List (Key × V)} {kvs : List (D × D)} : H a = some (.frz ob (.dK es)) → DqKV K G es kvs → CellAt K T G H a (.dlk kvs)
  | obj {C : Str} {dx : Addr} {vs : List (Str × V)} {fs : List (Str × D)} : H a = some (.ins (He.ga K C) dx vs) → H dx = some (.own a) → G dx = none → DqF K G vs fs → CellAt K T G H a (.obj C fs)
  | gone {o : HO} : H a = some o → (∀ ps, o ≠ .tbl ps) → (∀ x q, o ≠ LamX.CodeO x q) → (∀ x, o ≠ .own x) → CellAt K T G H a .gone
section
variable {K : Fg} {T : Tb} {G G' : Wd} {H H' : Hp} {σ : St} {ρ : MSt}
theorem CellAt.keep {a : Addr} {u : Cell} (h : CellAt K T G H a u) (l : Le G G') (n : ∀ b x, G b = none → H b = some (.own x) → G' b = none) (k : ∀ b o, H b = some o → (b = a ∨ ∃ x, o = .own x) → H' b = some o) : CellAt K T G' H' a u := by
  cases h with
  | lst h r => exact .lst (k _ _ h (.inl rfl)) (r.le l)
  | dic h r => exact .dic (k _ _ h (.inl rfl)) (r.le l)
  | dlk h r => exact .dlk (k _ _ h (.inl rfl)) (r.le l)
  | tdc t c1 c2 c3 h r => exact .tdc t c1 c2 c3 (k _ _ h (.inl rfl)) (r.le l)
  | obj h h2 g r => exact .obj (k _ _ h (.inl rfl)) (k _ _ h2 (.inr ⟨_, rfl⟩)) (n _ _ g h2) (r.le l)
  | gone h c1 c2 c3 => exact .gone (k _ _ h (.inl rfl)) c1 c2 c3
theorem CellAt.here {a : Addr} {u : Cell} (h : CellAt K T G H a u) : ∃ o, H a = some o ∧ (∀ ps, o ≠ .tbl ps) ∧ (∀ x q, o ≠ LamX.CodeO x q) ∧ (∀ x, o ≠ .own x) := by
  cases h with
  | lst h r => exact ⟨_, h, (fun _ z => by cases z), (fun _ _ z => by unfold LamX.CodeO at z; cases z), (fun _ z => by cases z)⟩
  | dic h r => exact ⟨_, h, (fun _ z => by cases z), (fun _ _ z => by unfold LamX.CodeO at z; cases z), (fun _ z => by cases z)⟩
  | dlk h r => exact ⟨_, h, (fun _ z => by cases z), (fun _ _ z => by unfold LamX.CodeO at z; cases z), (fun _ z => by cases z)⟩
  | tdc t c1 c2 c3 h r => exact ⟨_, h, c2, c1, c3⟩
  | obj h h2 g r => exact ⟨_, h, (fun _ z => by cases z), (fun _ _ z => by unfold LamX.CodeO at z; cases z), (fun _ z => by cases z)⟩
  | gone h c1 c2 c3 => exact ⟨_, h, c1, c2, c3⟩
/-- the store stands so -/
structure StoOk (K : Fg) (T : Tb) (G : Wd) (H : Hp) (μ : Sto) : Prop where
  len : G.m.length = μ.length
  nd : G.m.Nodup
  at_ : ∀ (n : Nat) a u, G.m[n]? = some a → μ[n]? = some u → G a = none ∧ CellAt K T G H a u
theorem StoOk.one {μ : Sto} (s : StoOk K T G H μ) {a : Addr} (h : a ∈ G.m) : ∃ (n : Nat) (u : Cell), G.m[n]? = some a ∧ μ[n]? = some u := by
  obtain ⟨n, e⟩ := List.getElem?_of_mem h
  have hn : n < μ.length := by rw [← s.len]; exact (List.getElem?_eq_some_iff.mp e).1
  exact ⟨n, μ[n], e, List.getElem?_eq_getElem hn⟩
theorem StoOk.there {μ : Sto} (s : StoOk K T G H μ) {a : Addr} (h : a ∈ G.m) : G a = none ∧ ∃ o, H a = Option.some o ∧ (∀ ps, o ≠ .tbl ps) ∧ (∀ x q, o ≠ LamX.CodeO x q) ∧ (∀ x, o ≠ .own x) := by
  obtain ⟨n, u, e1, e2⟩ := s.one h
  exact ⟨(s.at_ n a u e1 e2).1, (s.at_ n a u e1 e2).2.here⟩
theorem StoOk.keep {μ : Sto} (s : StoOk K T G H μ) (l : Le G G') (hm : G'.m = G.m) (n : ∀ b, G b = none → (b ∈ G.m ∨ ∃ x, H b = Option.some (.own x)) → H b ≠ none → G' b = none) (k : ∀ b o, H b = Option.some o → (b ∈ G.m ∨ ∃ x, o = .own x) → H' b = Option.some o) : StoOk K T G' H' μ := by
  refine ⟨by rw [hm]; exact s.len, by rw [hm]; exact s.nd, fun i a u e1 e2 => ?_⟩
  rw [hm] at e1
  obtain ⟨g, c⟩ := s.at_ i a u e1 e2
  obtain ⟨o, h, _⟩ := c.here
  exact ⟨n a g (.inl (List.mem_of_getElem? e1)) (by rw [h]; exact fun z => by cases z), c.keep l (fun b x g e => n b g (.inr ⟨x, e⟩) (by rw [e]; exact fun z => by cases z)) fun b o e z => k b o e (z.imp (fun y => by rw [y]; exact List.mem_of_getElem? e1) id)⟩
end
/-- the addresses that the slots own -/
def owns (σ : St) (ρ : MSt) : List Addr := (List.range ρ.length).filterMap fun (i : Nat) => match (ρ[i]? : Option (Option S)), (σ[i]? : Option (Option V)) with
  | some (some s), some (some (V.ref a)) => if S.own s = true then some a else none
  | _, _ => none
theorem mem_owns {σ : St} {ρ : MSt} {a : Addr} : a ∈ owns σ ρ ↔ ∃ (i : Nat) (s : S), ρ[i]? = some (some s) ∧ s.own = true ∧ σ[i]? = some (some (.ref a)) := by
  unfold owns
  rw [List.mem_filterMap]
  constructor
  · rintro ⟨i, _, e⟩
    split at e
    · rename_i s b h1 h2
      split at e
      · rename_i h3
        cases e
        exact ⟨i, s, h1, h3, h2⟩
      · cases e
    · cases e
  · rintro ⟨i, s, h1, h2, h3⟩
    exact ⟨i, List.mem_range.mpr (List.getElem?_eq_some_iff.mp h1).1, by rw [h1, h3]; simp [h2]⟩
/-- what stood at the entry, what may be changed of it, the tables -/
structure Gh where
  H0 : Hp
  G0 : Wd
  M : List Addr
  da : Addr
  al : Bool := false
  lk : List Addr := []
def Cell.isLk : Cell → Bool
  | .dlk _ => true
  | _ => false
/-- the addresses of the cells that are not locked -/
def free (ms : List Addr) (μ : Sto) : List Addr := (List.range ms.length).filterMap fun (n : Nat) => match (ms[n]? : Option Addr), (μ[n]? : Option Cell) with
  | some a, some u => if u.isLk = true then none else some a
  | _, _ => none
theorem mem_free {ms : List Addr} {μ : Sto} {a : Addr} : a ∈ free ms μ ↔ ∃ (n : Nat) (u : Cell), ms[n]? = some a ∧ μ[n]? = some u ∧ u.isLk = false := by
  unfold free
  rw [List.mem_filterMap]
  constructor
  · rintro ⟨n, _, e⟩
    split at e
    · rename_i b u h1 h2
      split at e
      · cases e
      · rename_i h3
        cases e
        exact ⟨n, u, h1, h2, by simpa using h3⟩
    · cases e
  · rintro ⟨n, u, h1, h2, h3⟩
    exact ⟨n, List.mem_range.mpr (List.getElem?_eq_some_iff.mp h1).1, by rw [h1, h2]; simp [h3]⟩
/-- what may be changed of the store: all cells but the locked ones -/
structure Pm (c : Gh) (G : Wd) (b : Bool) (μ : Sto) : Prop where
  al : b = true → c.al = true
  fr : b = true → ∀ (n : Nat) a u, G.m[n]? = some a → μ[n]? = some u → u.isLk = false → c.H0 a = none ∨ a ∈ c.M
  lk : ∀ (n : Nat) a u, G.m[n]? = some a → μ[n]? = some u → (u.isLk = true ↔ a ∈ c.lk)
theorem Pm.eqm {c : Gh} {G G' : Wd} {b : Bool} {μ : Sto} (q : Pm c G b μ) (e : G'.m = G.m) : Pm c G' b μ := ⟨q.al, by rw [e]; exact q.fr, by rw [e]; exact q.lk⟩
def StJ (K : Fg) (T : Tb) (c : Gh) (G : Wd) (H : Hp) (σ : St) (ρ : MSt) : Prop := ∀ b μ, ρ[σ.length]? = some (some (.sto b μ)) →
  StoOk K T G H μ ∧ Pm c G b μ
structure MJ (c : Gh) (G : Wd) (H : Hp) (σ : St) (ρ : MSt) : Prop where
  hr : ∀ a ∈ G.m, ∃ o, H a = some o
  ow : ∀ a ∈ G.m, a ∉ owns σ ρ
  gr : ∀ a ∈ G.m, a ∈ c.G0.m ∨ c.H0 a = none ∨ a ∈ c.M
  nm : c.al = false → G.m = c.G0.m
  wf : ∀ a ∈ c.lk, a ∉ c.M ∧ ∃ o es, c.H0 a = some (.frz o (.dK es))
structure J (K : Fg) (T : Tb) (c : Gh) (G : Wd) (H : Hp) (σ : St) (ρ : MSt) : Prop where
  sub : Lh G H
  g0 : Le c.G0 G
  gn : ∀ a, c.G0 a = none → c.H0 a ≠ none → a ∉ c.M → G a = none
  fr : ∀ a o, c.H0 a = some o → a ∉ c.M → (∀ ps, o ≠ .tbl ps) → H a = some o
  ft : ∀ a ps, c.H0 a = some (.tbl ps) → ∃ ps', H a = some (.tbl ps')
  len : ρ.length = σ.length + 1
  sl' : ∀ (i : Nat) s, ρ[i]? = some (some s) → s.isSto = false → ∃ v, σ[i]? = some (some v) ∧ RS K c.da G H s v
  ow : ∀ (i : Nat) s a, ρ[i]? = some (some s) → s.own = true → σ[i]? = some (some (.ref a)) → c.H0 a = none ∨ a ∈ c.M
  ap : ∀ (i j : Nat) s t a b, ρ[i]? = some (some s) → ρ[j]? = some (some t) → s.own = true → t.own = true → σ[i]? = some (some (.ref a)) → σ[j]? = some (some (.ref b)) → i ≠ j → a ≠ b
  tb : TabsC T H
  nt : ∀ a ps, G a ≠ some (.tbl ps)
  st : StJ K T c G H σ ρ
  mj : MJ c G H σ ρ
theorem S.own_sto {s : S} (h : s.own = true) : s.isSto = false := by cases s <;> first | rfl | cases h
section
variable {K : Fg} {T : Tb} {c : Gh} {G G' : Wd} {H H' : Hp} {σ : St} {ρ : MSt}
theorem J.sl (j : J K T c G H σ ρ) (i : Nat) (s : S) (h : ρ[i]? = some (some s)) (ns : s.isSto = false := by rfl) : ∃ v, σ[i]? = some (some v) ∧ RS K c.da G H s v := j.sl' i s h ns
theorem J.subH (j : J K T c G H σ ρ) : Sub G H := j.sub.sub
theorem J.fresh (j : J K T c G H σ ρ) {p : Addr} (h : H p = none) : G p = none := by
  cases e : G p with
  | none => rfl
  | some o =>
    have q := j.sub p o e
    rw [h] at q; cases q
theorem J.H0none (j : J K T c G H σ ρ) {a : Addr} (h : H a = none) : c.H0 a = none ∨ a ∈ c.M := by
  cases e : c.H0 a with
  | none => exact .inl rfl
  | some o =>
    by_cases m : a ∈ c.M
    · exact .inr m
    · cases o with
      | tbl ps => obtain ⟨_, q⟩ := j.ft a ps e; rw [h] at q; cases q
      | _ => have q := j.fr a _ e m (fun _ z => by cases z); rw [h] at q; cases q
theorem J.freshM (j : J K T c G H σ ρ) {a : Addr} (h : H a = none) : a ∉ G.m := fun m => by
  obtain ⟨o, q⟩ := j.mj.hr a m
  rw [h] at q; cases q
theorem MJ.owns {σ2 : St} {ρ2 : MSt} (q : MJ c G H σ ρ) (h : ∀ a, a ∈ owns σ2 ρ2 → a ∈ owns σ ρ) : MJ c G H σ2 ρ2 := ⟨q.hr, fun a m n => q.ow a m (h a n), q.gr, q.nm, q.wf⟩
theorem RS.grow {da : Addr} (h : H p = none) (hG : G p = none) {o : HO} : ∀ {s : S} {v : V}, RS K da G H s v → RS K da (wupd G p o) (upd H p o) s v
  | .d x, v, r => Dq.le r (Le.upd hG)
  | .ol xs, v, ⟨a, vs, e, g, hh, r⟩ => ⟨a, vs, e, by show upd G.hp p o a = none; rw [upd_ne (ne_of_none hh h)]; exact g, by rw [upd_ne (ne_of_none hh h)]; exact hh, r.le (Le.upd hG)⟩
  | .od xs, v, ⟨a, vs, e, g, hh, r⟩ => ⟨a, vs, e, by show upd G.hp p o a = none; rw [upd_ne (ne_of_none hh h)]; exact g, by rw [upd_ne (ne_of_none hh h)]; exact hh, r.le (Le.upd hG)⟩
  | .dc xs, v, ⟨e0, a, vs, e, g, hh, r⟩ => ⟨e0, a, vs, e, by show upd G.hp p o a = none; rw [upd_ne (ne_of_none hh h)]; exact g, by rw [upd_ne (ne_of_none hh h)]; exact hh, r.le (Le.upd hG)⟩
/-- a new still object -/
theorem J.grow (j : J K T c G H σ ρ) {p : Addr} {o : HO} (h : H p = none) (nt : ∀ ps, o ≠ .tbl ps := by intro _ z; cases z) : J K T c (wupd G p o) (upd H p o) σ ρ := by
  have hG := j.fresh h
  refine ⟨fun a u e => ?_, j.g0.trans (Le.upd hG), fun a g0 h0 m => ?_, fun a u e m t => ?_, fun a ps e => ?_, j.len, fun i s e ns => ?_, j.ow, j.ap, j.tb.ext fun b u e => by rw [upd_ne (ne_of_none e h)]; exact e, fun a ps z => by
    by_cases y : a = p
    · rw [y] at z; have z : upd G.hp p o p = _ := z; rw [upd_same] at z; exact nt ps (Option.some.inj z)
    · have z : upd G.hp p o a = _ := z; rw [upd_ne y] at z; exact j.nt a ps z, fun b μ e => ?_, ?_⟩
  · have e : upd G.hp p o a = some u := e
    by_cases z : a = p
    · subst z; rw [upd_same] at e ⊢; exact e
    · rw [upd_ne z] at e ⊢; exact j.sub a u e
  · show upd G.hp p o a = none
    by_cases z : a = p
    · subst z
      rcases j.H0none h with q | q
      · exact absurd q h0
      · exact absurd q m
    · rw [upd_ne z]; exact j.gn a g0 h0 m
  · rw [upd_ne (ne_of_none (j.fr a u e m t) h)]; exact j.fr a u e m t
  · obtain ⟨ps', q⟩ := j.ft a ps e
    exact ⟨ps', by rw [upd_ne (ne_of_none q h)]; exact q⟩
  · obtain ⟨v, e1, r⟩ := j.sl i s e ns
    exact ⟨v, e1, r.grow h hG⟩
  · obtain ⟨s1, s3⟩ := j.st b μ e
    refine ⟨s1.keep (Le.upd hG) rfl (fun b g _ hb => ?_) fun b u e _ => by rw [upd_ne (ne_of_none e h)]; exact e, s3.eqm rfl⟩
    show upd G.hp p o b = none
    rw [upd_ne (fun z => hb (by rw [z]; exact h))]; exact g
  · exact ⟨fun a m => (j.mj.hr a m).imp fun u e => by rw [upd_ne (ne_of_none e h)]; exact e, j.mj.ow, j.mj.gr, j.mj.nm, j.mj.wf⟩
theorem RS.heap {da : Addr} (k : ∀ a o, H a = some o → (∀ ps, o ≠ .tbl ps) → H' a = some o) : ∀ {s : S} {v : V}, RS K da G H s v → RS K da G H' s v
  | .d x, v, r => r
  | .ol xs, v, ⟨a, vs, e, g, hh, r⟩ => ⟨a, vs, e, g, k _ _ hh (fun _ z => by cases z), r⟩
  | .od xs, v, ⟨a, vs, e, g, hh, r⟩ => ⟨a, vs, e, g, k _ _ hh (fun _ z => by cases z), r⟩
  | .dc xs, v, ⟨e0, a, vs, e, g, hh, r⟩ => ⟨e0, a, vs, e, g, k _ _ hh (fun _ z => by cases z), r⟩
theorem owns_sub {σ2 : St} {ρ2 : MSt} (h : ∀ (i : Nat) (s : S), ρ2[i]? = some (some s) → s.own = true → ρ[i]? = some (some s) ∧ σ[i]? = σ2[i]?) {a : Addr} (m : a ∈ owns σ2 ρ2) : a ∈ owns σ ρ := by
  obtain ⟨i, s, e1, e2, e3⟩ := mem_owns.mp m
  obtain ⟨q1, q2⟩ := h i s e1 e2
  exact mem_owns.mpr ⟨i, s, q1, e2, by rw [q2]; exact e3⟩
/-- the store: a name holds data -/
theorem J.set (j : J K T c G H σ ρ) {i : Nat} {v : V} {d : D} (hi : i + 1 < ρ.length) (r : Dq K G v d) : J K T c G H (σ.set i (some v)) (ρ.set i (some (.d d))) := by
  have hs : i < σ.length := by have := j.len; omega
  have hi' : i < ρ.length := by omega
  have at_ : ∀ {k : Nat} {s : S}, (ρ.set i (some (.d d)))[k]? = some (some s) → (k = i ∧ s = .d d) ∨ (k ≠ i ∧ ρ[k]? = some (some s)) := fun {k s} e => by
    by_cases z : k = i
    · subst z; rw [List.getElem?_set_self hi'] at e; cases e; exact .inl ⟨rfl, rfl⟩
    · rw [List.getElem?_set_ne (Ne.symm z)] at e; exact .inr ⟨z, e⟩
  refine ⟨j.sub, j.g0, j.gn, j.fr, j.ft, by simp [j.len], fun k s e ns => ?_, fun k s a e o e2 => ?_, fun k l s t a b e1 e2 o1 o2 f1 f2 n => ?_, j.tb, j.nt, fun b μ e => ?_, j.mj.owns fun a n => owns_sub (fun k s e o => ?_) n⟩
  · rcases at_ e with ⟨rfl, rfl⟩ | ⟨z, e⟩
    · exact ⟨v, List.getElem?_set_self hs, r⟩
    · obtain ⟨w, h1, h2⟩ := j.sl k s e ns
      exact ⟨w, by rw [List.getElem?_set_ne (Ne.symm z)]; exact h1, h2⟩
  · rcases at_ e with ⟨rfl, rfl⟩ | ⟨z, e⟩
    · cases o
    · rw [List.getElem?_set_ne (Ne.symm z)] at e2; exact j.ow k s a e o e2
  · rcases at_ e1 with ⟨rfl, rfl⟩ | ⟨z, e1⟩
    · cases o1
    · rcases at_ e2 with ⟨rfl, rfl⟩ | ⟨z2, e2⟩
      · cases o2
      · rw [List.getElem?_set_ne (Ne.symm z)] at f1
        rw [List.getElem?_set_ne (Ne.symm z2)] at f2
        exact j.ap k l s t a b e1 e2 o1 o2 f1 f2 n
  · rw [List.length_set] at e
    rw [List.getElem?_set_ne (by omega)] at e
    exact j.st b μ e
  · rcases at_ e with ⟨rfl, rfl⟩ | ⟨z, e⟩
    · cases o
    · exact ⟨e, by rw [List.getElem?_set_ne (Ne.symm z)]⟩
/-- the ghost, taken anew here -/
def here (c : Gh) (G : Wd) (H : Hp) (σ : St) (ρ : MSt) : Gh := ⟨H, G, owns σ ρ ++ (match ρ[σ.length]? with
  | some (some (.sto true μ)) => free G.m μ
  | _ => []), c.da, c.al, c.lk⟩
theorem mem_here {a : Addr} (h : a ∈ (here c G H σ ρ).M) : a ∈ owns σ ρ ∨ ∃ μ, ρ[σ.length]? = some (some (.sto true μ)) ∧ a ∈ free G.m μ := by
  rcases List.mem_append.mp h with h | h
  · exact .inl h
  · split at h
    · rename_i μ e; exact .inr ⟨μ, e, h⟩
    · cases h
theorem free_mem {ms : List Addr} {μ : Sto} {a : Addr} (h : a ∈ free ms μ) : a ∈ ms := by
  obtain ⟨n, u, h1, _⟩ := mem_free.mp h
  exact List.mem_of_getElem? h1
theorem J.hereFz (j : J K T c G H σ ρ) {a : Addr} (h : a ∈ c.lk) : a ∉ (Mi.here c G H σ ρ).M ∧ ∃ o es, H a = some (.frz o (.dK es)) := by
  obtain ⟨nM, o, es, h0⟩ := j.mj.wf a h
  have hh := j.fr a _ h0 nM (fun _ z => by cases z)
  refine ⟨fun m => ?_, o, es, hh⟩
  rcases mem_here m with m | ⟨μ, e, m⟩
  · obtain ⟨i, s, e1, e2, e3⟩ := mem_owns.mp m
    exact (j.ow i s a e1 e2 e3).elim (fun z => by rw [h0] at z; cases z) nM
  · obtain ⟨n, u, q1, q2, q3⟩ := mem_free.mp m
    have := ((j.st true μ e).2.lk n a u q1 q2).mpr h
    rw [q3] at this; cases this
theorem J.here (j : J K T c G H σ ρ) : J K T (here c G H σ ρ) G H σ ρ :=
  ⟨j.sub, Le.refl G, fun _ e _ _ => e, fun _ _ e _ _ => e, fun _ ps e => ⟨ps, e⟩, j.len, j.sl', fun i s a e o e2 => .inr (List.mem_append_left _ (mem_owns.mpr ⟨i, s, e, o, e2⟩)), j.ap, j.tb, j.nt, fun b μ e => by
    obtain ⟨s1, s3⟩ := j.st b μ e
    refine ⟨s1, s3.al, fun hb n a u q1 q2 q3 => .inr (List.mem_append_right _ ?_), s3.lk⟩
    subst hb
    rw [e]; exact mem_free.mpr ⟨n, u, q1, q2, q3⟩, ⟨j.mj.hr, j.mj.ow, fun a m => .inl m, fun _ => rfl, fun a h => j.hereFz h⟩⟩
theorem J.hereM (j : J K T c G H σ ρ) {a : Addr} (h : a ∈ (Mi.here c G H σ ρ).M) : c.H0 a = none ∨ a ∈ c.M := by
  rcases mem_here h with h | ⟨μ, e, m⟩
  · obtain ⟨i, s, e1, e2, e3⟩ := mem_owns.mp h
    exact j.ow i s a e1 e2 e3
  · obtain ⟨n, u, q1, q2, q3⟩ := mem_free.mp m
    exact (j.st true μ e).2.fr rfl n a u q1 q2 q3
theorem J.back {G2 : Wd} {H2 : Hp} {σ2 : St} {ρ2 : MSt} (j : J K T c G H σ ρ) (j2 : J K T (Mi.here c G H σ ρ) G2 H2 σ2 ρ2) : J K T c G2 H2 σ2 ρ2 := by
  have own : ∀ a, a ∈ (Mi.here c G H σ ρ).M → c.H0 a = none ∨ a ∈ c.M := fun a h => j.hereM h
  have per : ∀ a, (Mi.here c G H σ ρ).H0 a = none ∨ a ∈ (Mi.here c G H σ ρ).M → c.H0 a = none ∨ a ∈ c.M := fun a z => by
    rcases z with z | z
    · exact j.H0none z
    · exact own a z
  refine ⟨j2.sub, j.g0.trans j2.g0, fun a g0 h0 m => j2.gn a (j.gn a g0 h0 m) (fun z => (j.H0none z).elim h0 m) (fun h => (own a h).elim h0 m), fun a o e m t => j2.fr a o (j.fr a o e m t) (fun h => ?_) t, fun a ps e => ?_, j2.len, j2.sl', fun i s a e o e2 => per a (j2.ow i s a e o e2), j2.ap, j2.tb, j2.nt, fun b μ e => ?_, ⟨j2.mj.hr, j2.mj.ow, fun a m => ?_, fun h => (j2.mj.nm h).trans (j.mj.nm h), j.mj.wf⟩⟩
  · rcases own a h with z | z
    · rw [e] at z; cases z
    · exact m z
  · obtain ⟨ps', q⟩ := j.ft a ps e
    exact j2.ft a ps' q
  · obtain ⟨s1, s3⟩ := j2.st b μ e
    exact ⟨s1, s3.al, fun hb n a u q1 q2 q3 => per a (s3.fr hb n a u q1 q2 q3), s3.lk⟩
  · rcases j2.mj.gr a m with z | z
    · exact j.mj.gr a z
    · exact .inr (per a z)
/-- an object beside the slots is changed -/
theorem J.write (j : J K T c G H σ ρ) {a : Addr} {o o' : HO} (hG : G a = none) (hH : H a = some o) (ht : ∀ ps, o ≠ .tbl ps) (hc : ∀ x q, o ≠ LamX.CodeO x q) (h0 : c.H0 a = none ∨ a ∈ c.M) (no : a ∉ owns σ ρ) (nm : a ∉ G.m) (hw : ∀ x, o ≠ .own x := by intro _ z; cases z) : J K T c G (upd H a o') σ ρ := by
  have tb : ∀ b u, H b = some u → u ≠ o → upd H a o' b = some u := fun b u e n => by
    rw [upd_ne (fun z => n (by rw [z, hH] at e; exact (Option.some.inj e).symm))]; exact e
  refine ⟨fun b u e => ?_, j.g0, j.gn, fun b u e m t => ?_, fun b ps e => ?_, j.len, fun i s e ns => ?_, j.ow, j.ap, ?_, j.nt, fun b μ e => ?_, ⟨fun b m => (j.mj.hr b m).imp fun u e => by rw [upd_ne (show b ≠ a from fun z => nm (by rw [← z]; exact m))]; exact e, j.mj.ow, j.mj.gr, j.mj.nm, j.mj.wf⟩⟩
  · rw [upd_ne (ne_of_none e hG)]; exact j.sub b u e
  · have q := j.fr b u e m t
    rw [upd_ne (fun z => by rcases h0 with y | y; (rw [← z, e] at y; cases y); exact m (z ▸ y))]; exact q
  · obtain ⟨ps', q⟩ := j.ft b ps e
    exact ⟨ps', tb b _ q (fun z => ht _ z.symm)⟩
  · obtain ⟨v, e1, r⟩ := j.sl i s e ns
    refine ⟨v, e1, ?_⟩
    cases s with
    | d x => exact r
    | ol xs =>
      obtain ⟨b, vs, e2, g, hh, r⟩ := r
      subst e2
      exact ⟨b, vs, rfl, g, by rw [upd_ne (show b ≠ a from fun z => no (mem_owns.mpr ⟨i, _, e, rfl, by rw [← z]; exact e1⟩))]; exact hh, r⟩
    | od xs =>
      obtain ⟨b, vs, e2, g, hh, r⟩ := r
      subst e2
      exact ⟨b, vs, rfl, g, by rw [upd_ne (show b ≠ a from fun z => no (mem_owns.mpr ⟨i, _, e, rfl, by rw [← z]; exact e1⟩))]; exact hh, r⟩
    | dc xs =>
      obtain ⟨e0, b, vs, e2, g, hh, r⟩ := r
      subst e2
      exact ⟨e0, b, vs, rfl, g, by rw [upd_ne (show b ≠ a from fun z => no (mem_owns.mpr ⟨i, _, e, rfl, by rw [← z]; exact e1⟩))]; exact hh, r⟩
    | sto b μ => cases ns
  · exact j.tb.of fun b u e k => tb b u e (fun z => by rcases k with ⟨ps, rfl⟩ | ⟨x, q, rfl⟩; exact ht _ z.symm; exact hc _ _ z.symm)
  · obtain ⟨s1, s3⟩ := j.st b μ e
    refine ⟨s1.keep (Le.refl G) rfl (fun _ g _ _ => g) fun d u eu z => ?_, s3⟩
    rcases z with z | ⟨x, z⟩
    · rw [upd_ne (show d ≠ a from fun y => nm (by rw [← y]; exact z))]; exact eu
    · exact tb d u eu fun y => hw x (by rw [← y, z])
/-- an object beside the slots stands still from now on -/
theorem J.still (j : J K T c G H σ ρ) {a : Addr} {o : HO} (hG : G a = none) (hH : H a = some o) (h0 : c.H0 a = none ∨ a ∈ c.M) (no : a ∉ owns σ ρ) (nm : a ∉ G.m) (nt : ∀ ps, o ≠ .tbl ps := by intro _ z; cases z) (hw : ∀ x, o ≠ .own x := by intro _ z; cases z) : J K T c (wupd G a o) H σ ρ := by
  refine ⟨fun b u e => ?_, j.g0.trans (Le.upd hG), fun b g0 hh m => ?_, j.fr, j.ft, j.len, fun i s e ns => ?_, j.ow, j.ap, j.tb, fun b ps z => by
    have z : upd G.hp a o b = _ := z
    by_cases y : b = a
    · rw [y, upd_same] at z; exact nt ps (Option.some.inj z)
    · rw [upd_ne y] at z; exact j.nt b ps z, fun b μ e => ?_, ⟨j.mj.hr, j.mj.ow, j.mj.gr, j.mj.nm, j.mj.wf⟩⟩
  · have e : upd G.hp a o b = some u := e
    by_cases z : b = a
    · subst z; rw [upd_same] at e; rw [hH]; exact e
    · rw [upd_ne z] at e; exact j.sub b u e
  · show upd G.hp a o b = none
    by_cases z : b = a
    · subst z; exact (h0.elim hh m).elim
    · rw [upd_ne z]; exact j.gn b g0 hh m
  · obtain ⟨v, e1, r⟩ := j.sl i s e ns
    refine ⟨v, e1, ?_⟩
    have g' : ∀ {b : Addr}, s.own = true → v = .ref b → G b = none → upd G.hp a o b = none := fun {b} o' ev g => by
      subst ev
      rw [upd_ne (show b ≠ a from fun z => no (mem_owns.mpr ⟨i, _, e, o', by rw [← z]; exact e1⟩))]; exact g
    cases s with
    | d x => exact Dq.le r (Le.upd hG)
    | ol xs =>
      obtain ⟨b, vs, e2, g, hh, r⟩ := r
      exact ⟨b, vs, e2, g' rfl e2 g, hh, r.le (Le.upd hG)⟩
    | od xs =>
      obtain ⟨b, vs, e2, g, hh, r⟩ := r
      exact ⟨b, vs, e2, g' rfl e2 g, hh, r.le (Le.upd hG)⟩
    | dc xs =>
      obtain ⟨e0, b, vs, e2, g, hh, r⟩ := r
      exact ⟨e0, b, vs, e2, g' rfl e2 g, hh, r.le (Le.upd hG)⟩
    | sto b μ => cases ns
  · obtain ⟨s1, s3⟩ := j.st b μ e
    refine ⟨⟨s1.len, s1.nd, fun n d u e1 e2 => ?_⟩, s3.eqm rfl⟩
    obtain ⟨g, ct⟩ := s1.at_ n d u e1 e2
    have nd : d ≠ a := fun z => nm (by rw [← z]; exact List.mem_of_getElem? e1)
    refine ⟨by show upd G.hp a o d = none; rw [upd_ne nd]; exact g, ?_⟩
    cases ct with
    | lst h r => exact .lst h (r.le (Le.upd hG))
    | dic h r => exact .dic h (r.le (Le.upd hG))
    | dlk h r => exact .dlk h (r.le (Le.upd hG))
    | tdc t c1 c2 c3 h r => exact .tdc t c1 c2 c3 h (r.le (Le.upd hG))
    | obj h h2 g2 r =>
      refine .obj h h2 ?_ (r.le (Le.upd hG))
      show upd G.hp a o _ = none
      rw [upd_ne (fun z => by rw [z, hH] at h2; exact hw _ (Option.some.inj h2))]; exact g2
    | gone h c1 c2 c3 => exact .gone h c1 c2 c3
/-- a new object beside the slots, not still -/
theorem J.aside (j : J K T c G H σ ρ) {a : Addr} {o : HO} (hH : H a = none) : J K T c G (upd H a o) σ ρ := by
  have up : ∀ b u, H b = some u → upd H a o b = some u := fun b u e => by rw [upd_ne (ne_of_none e hH)]; exact e
  refine ⟨fun b u e => up b u (j.sub b u e), j.g0, j.gn, fun b u e m t => up b u (j.fr b u e m t), fun b ps e => ?_, j.len, fun i s e ns => ?_, j.ow, j.ap, j.tb.ext up, j.nt, fun b μ e => ?_, ⟨fun b m => (j.mj.hr b m).imp fun u e => up b u e, j.mj.ow, j.mj.gr, j.mj.nm, j.mj.wf⟩⟩
  · obtain ⟨ps', q⟩ := j.ft b ps e
    exact ⟨ps', up _ _ q⟩
  · obtain ⟨v, e1, r⟩ := j.sl i s e ns
    exact ⟨v, e1, r.heap fun b u e _ => up b u e⟩
  · obtain ⟨s1, s3⟩ := j.st b μ e
    exact ⟨s1.keep (Le.refl G) rfl (fun _ g _ _ => g) fun d u eu _ => up d u eu, s3⟩
theorem J.notOwn (j : J K T c G H σ ρ) {a : Addr} (h : H a = none) : a ∉ owns σ ρ := fun m => by
  obtain ⟨i, s, e1, e2, e3⟩ := mem_owns.mp m
  obtain ⟨v, q, r⟩ := j.sl i s e1 (S.own_sto e2)
  rw [e3] at q
  cases q
  cases s with
  | d x => cases e2
  | ol xs => obtain ⟨b, vs, e, _, hh, _⟩ := r; cases e; rw [h] at hh; cases hh
  | od xs => obtain ⟨b, vs, e, _, hh, _⟩ := r; cases e; rw [h] at hh; cases hh
  | dc xs => obtain ⟨_, b, vs, e, _, hh, _⟩ := r; cases e; rw [h] at hh; cases hh
  | sto b μ => cases e2
theorem not_here {a : Addr} (no : a ∉ owns σ ρ ∧ a ∉ G.m) : a ∉ (Mi.here c G H σ ρ).M := fun h => by
  rcases mem_here h with h | ⟨_, _, h⟩
  · exact no.1 h
  · exact no.2 (free_mem h)
theorem J.apart (j : J K T c G H σ ρ) {a : Addr} (h0 : c.H0 a ≠ none) (nM : a ∉ c.M) (nm : a ∉ c.G0.m) : a ∉ owns σ ρ ∧ a ∉ G.m := by
  refine ⟨fun m => ?_, fun m => ?_⟩
  · obtain ⟨k, s, e1, e2, e3⟩ := mem_owns.mp m
    exact (j.ow k s a e1 e2 e3).elim h0 nM
  · exact (j.mj.gr a m).elim nm fun z => z.elim h0 nM
/-- names forgotten -/
def wipeM (ρ : MSt) : List Nat → MSt
  | [] => ρ
  | v :: vs => (wipeM ρ vs).set v none
theorem J.drop1 (j : J K T c G H σ ρ) (i : Nat) : J K T c G H (σ.set i none) (ρ.set i none) := by
  have at_ : ∀ {k : Nat} {s : S}, (ρ.set i none)[k]? = some (some s) → k ≠ i ∧ ρ[k]? = some (some s) := fun {k s} e => by
    by_cases z : k = i
    · subst z
      by_cases hk : k < ρ.length
      · rw [List.getElem?_set_self hk] at e; cases e
      · rw [List.getElem?_eq_none (by simpa using hk)] at e; cases e
    · rw [List.getElem?_set_ne (Ne.symm z)] at e; exact ⟨z, e⟩
  refine ⟨j.sub, j.g0, j.gn, j.fr, j.ft, by simp [j.len], fun k s e ns => ?_, fun k s a e o e2 => ?_, fun k l s t a b e1 e2 o1 o2 f1 f2 n => ?_, j.tb, j.nt, fun b μ e => ?_, j.mj.owns fun a n => owns_sub (fun k s e o => ?_) n⟩
  · obtain ⟨z, e⟩ := at_ e
    obtain ⟨w, h1, h2⟩ := j.sl k s e ns
    exact ⟨w, by rw [List.getElem?_set_ne (Ne.symm z)]; exact h1, h2⟩
  · obtain ⟨z, e⟩ := at_ e
    rw [List.getElem?_set_ne (Ne.symm z)] at e2; exact j.ow k s a e o e2
  · obtain ⟨z, e1⟩ := at_ e1
    obtain ⟨z2, e2⟩ := at_ e2
    rw [List.getElem?_set_ne (Ne.symm z)] at f1
    rw [List.getElem?_set_ne (Ne.symm z2)] at f2
    exact j.ap k l s t a b e1 e2 o1 o2 f1 f2 n
  · rw [List.length_set] at e
    obtain ⟨z, e⟩ := at_ e
    exact j.st b μ e
  · obtain ⟨z, e⟩ := at_ e
    exact ⟨e, by rw [List.getElem?_set_ne (Ne.symm z)]⟩
theorem J.wipe (j : J K T c G H σ ρ) : ∀ vs : List Nat, J K T c G H (wipe σ vs) (wipeM ρ vs)
  | [] => j
  | v :: vs => (J.wipe j vs).drop1 v
/-- other slots over the same heap -/
theorem J.refit (j : J K T c G H σ ρ) {σ2 : St} {ρ2 : MSt} (hl : ρ2.length = σ2.length + 1) (hσ : σ2.length = σ.length) (h : ∀ (i : Nat) s, ρ2[i]? = some (some s) → (ρ[i]? = some (some s) ∧ σ[i]? = σ2[i]?) ∨ ∃ x v, s = .d x ∧ σ2[i]? = some (some v) ∧ Dq K G v x) : J K T c G H σ2 ρ2 := by
  have own : ∀ {i : Nat} {s : S}, ρ2[i]? = some (some s) → s.own = true → ρ[i]? = some (some s) ∧ σ[i]? = σ2[i]? := fun {i s} e o => by
    rcases h i s e with q | ⟨x, v, rfl, _⟩
    · exact q
    · cases o
  refine ⟨j.sub, j.g0, j.gn, j.fr, j.ft, hl, fun i s e ns => ?_, fun i s a e o e2 => ?_, fun k l s t a b e1 e2 o1 o2 f1 f2 n => ?_, j.tb, j.nt, fun b μ e => ?_, j.mj.owns fun a n => owns_sub (fun k s e o => own e o) n⟩
  · rcases h i s e with ⟨q1, q2⟩ | ⟨x, v, rfl, q1, q2⟩
    · obtain ⟨v, e1, r⟩ := j.sl i s q1 ns
      exact ⟨v, by rw [← q2]; exact e1, r⟩
    · exact ⟨v, q1, q2⟩
  · obtain ⟨q1, q2⟩ := own e o
    exact j.ow i s a q1 o (by rw [q2]; exact e2)
  · obtain ⟨q1, q2⟩ := own e1 o1
    obtain ⟨q3, q4⟩ := own e2 o2
    exact j.ap k l s t a b q1 q3 o1 o2 (by rw [q2]; exact f1) (by rw [q4]; exact f2) n
  · rcases h _ _ e with ⟨q1, q2⟩ | ⟨x, v, z, _⟩
    · rw [hσ] at q1
      exact j.st b μ q1
    · cases z
end
end Mi
set_option Elab.async false
set_option linter.all false
set_option maxRecDepth 100000
set_option maxHeartbeats 4000000
namespace Mi
open PySem L2
def IsX (K : Fg) (H : Hp) (e : Exn) (cls : Value) (dx : Option Addr) : Prop := cls = .ref (He.ga K e.cls) ∧ match e.lacks with
  | none => dx = none
  | some n => ∃ d, dx = some d ∧ H d = some (.xd [(("lacks" : Str), V.int n)])
section
variable (K : Fg) (T : Tb) (c : Gh) (W : WX)
def pX {α β : Type} (rel : Wd → β → α → Prop) (σ : St) (G : Wd) (Q : β → Hp → Prop) : Out α → Prop
  | .ok a ρ' => ∀ b G' H', Le G G' → J K T c G' H' σ ρ' → rel G' b a → Q b H'
  | .exn e ρ' => ∀ cls dx G' H', Le G G' → J K T c G' H' σ ρ' → IsX K G'.hp e cls dx → W cls dx σ H'
  | .stuck => False
def mX {α β : Type} (rel : Wd → β → α → Prop) (f : MM α) : St → Hp → (β → Hp → Prop) → Prop := fun σ H Q => ∃ G ρ, J K T c G H σ ρ ∧ pX K T c W rel σ G Q (f ρ)
abbrev relD : Wd → V → D → Prop := fun G v d => Dq K G v d
abbrev relB : Wd → Bool → Bool → Prop := fun _ b k => b = k
abbrev relA : Wd → List V → List D → Prop := fun G vs ds => DqAll K G vs ds
def mE (f : MM D) : TE := mX K T c W (relD K) f
def mT (f : MM Bool) : TT := mX K T c W relB f
def mA (f : MM (List D)) : TA := mX K T c W (relA K) f
end
section
variable {K : Fg} {T : Tb} {c : Gh} {W : WX} {α β γ δ : Type} {rel : Wd → β → α → Prop} {rel' : Wd → δ → γ → Prop} {σ : St} {ρ : MSt} {G G1 : Wd} {H : Hp} {Q : δ → Hp → Prop} {R : β → Hp → Prop} {o : Out γ}
theorem pX.le (l : Le G G1) (h : pX K T c W rel' σ G Q o) : pX K T c W rel' σ G1 Q o := by
  cases o with
  | ok a ρ' => exact fun b G' H' l' => h b G' H' (l.trans l')
  | exn e ρ' => exact fun cls dx G' H' l' => h cls dx G' H' (l.trans l')
  | stuck => exact h
theorem pX_bind {f : MM α} {g : α → MM γ} (j : J K T c G H σ ρ) (p : pX K T c W rel' σ G Q (MM.bind f g ρ))
    (k : ∀ a b ρ1 G1 H1, Le G G1 → J K T c G1 H1 σ ρ1 → rel G1 b a → pX K T c W rel' σ G1 Q (g a ρ1) → R b H1) : mX K T c W rel f σ H R := by
  refine ⟨G, ρ, j, ?_⟩
  unfold MM.bind at p
  cases e : f ρ with
  | ok a ρ1 =>
    rw [e] at p
    exact fun b G1 H1 l j1 r => k a b ρ1 G1 H1 l j1 r (pX.le l p)
  | exn x ρ1 =>
    rw [e] at p
    exact p
  | stuck =>
    rw [e] at p
    exact p
/-- the end of a pure step: the heap as it is -/
theorem pX.here {a : γ} {b : δ} (p : pX K T c W rel' σ G Q (.ok a ρ)) (j : J K T c G H σ ρ) (r : rel' G b a) : Q b H := p b G H (Le.refl G) j r
end
theorem pe_mono {X : Cx} {e : Expr} {t t' : TE} (h : PE X e t) (k : ∀ σ H Q, t' σ H Q → t σ H Q) : PE X e t' := ⟨fun pins s σ H Q I q => h.run pins s σ H Q I (k σ H Q q)⟩
theorem pt_mono {X : Cx} {e : Expr} {t t' : TT} (h : PT X e t) (k : ∀ σ H Q, t' σ H Q → t σ H Q) : PT X e t' := ⟨fun pins s σ H Q I q => h.run pins s σ H Q I (k σ H Q q)⟩
theorem pw_mono {X : Cx} {e : Expr} {t t' : TT} (h : PW X e t) (k : ∀ σ H Q, t' σ H Q → t σ H Q) : PW X e t' := ⟨fun wh pins s σ H Q I q => h.run wh pins s σ H Q I (k σ H Q q)⟩
theorem pa_mono {X : Cx} {e : List Expr} {t t' : TA} (h : PA X e t) (k : ∀ σ H Q, t' σ H Q → t σ H Q) : PA X e t' := ⟨fun pos pins s σ H Q I q => h.run pos pins s σ H Q I (k σ H Q q)⟩
theorem ps_mono {X : Cx} {e : Stmt} {t t' : TS} (h : PS X e t) (k : ∀ D σ H, t' D σ H → t D σ H) : PS X e t' := ⟨fun pins s σ H D I q => h.run pins s σ H D I (k D σ H q)⟩
theorem pss_mono {X : Cx} {e : List Stmt} {t t' : TS} (h : PSs X e t) (k : ∀ D σ H, t' D σ H → t D σ H) : PSs X e t' := ⟨fun pins s σ H D I q => h.run pins s σ H D I (k D σ H q)⟩
def var (i : Nat) : MM D := fun ρ => match ρ[i]? with
  | some (some (.d x)) => .ok x ρ
  | _ => .stuck
section
variable {X : Cx} {T : Tb} {c : Gh} {W : WX} {a b e : Expr} {f f1 f2 : MM D} {pos : Pos}
theorem me_var {i : Nat} {x : Str} (hN : X.N[i]? = some x) (hv : Vis X.env.scope x) (hd : (x == ("__debug__" : Str)) = false := by decide) (hcd : (x == ("__classdict__" : Str)) = false := by decide) : PE X (.Name x pos) (mE X.K T c W (var i)) := by
  refine pe_mono (pe_var hN hv hd hcd) fun σ H Q ⟨G, ρ, j, p⟩ => ?_
  unfold var at p
  split at p
  · rename_i y hy
    obtain ⟨v, e1, r⟩ := j.sl i _ hy
    exact ⟨v, e1, p.here j r⟩
  · exact p.elim
theorem me_const {d : D} {v : V} (h : PE X e (tC v)) (r : ∀ G, Dq X.K G v d) : PE X e (mE X.K T c W (MM.pure d)) :=
  pe_mono h fun σ H Q ⟨G, ρ, j, p⟩ => p.here j (r G)
theorem me_int {i j} : PE X (.Constant (.int i) j pos) (mE X.K T c W (MM.pure (.int i))) := me_const pe_int fun _ => .int i
theorem me_bl {b j} : PE X (.Constant (.bool b) j pos) (mE X.K T c W (MM.pure (.bool b))) := me_const pe_bl fun _ => .bl b
theorem me_non {j} : PE X (.Constant .none j pos) (mE X.K T c W (MM.pure .none)) := me_const pe_non fun _ => .non
theorem me_str {x j} : PE X (.Constant (.str x) j pos) (mE X.K T c W (MM.pure (.str x))) := me_const pe_str fun _ => .str x
def Op2 (X : Cx) (T : Tb) (c : Gh) (W : WX) (f : Value → Value → Sem Value) (g : D → D → Res D) : Prop :=
  ∃ r : R2, OpR X f r ∧ ∀ σ ρ G H x y d e (Q : VK), J X.K T c G H σ ρ → Dq X.K G x d → Dq X.K G y e → pX X.K T c W (relD X.K) σ G Q (lift (g d e) ρ) → r x y H Q
def op2 (g : D → D → Res D) (f1 f2 : MM D) : MM D := MM.bind f1 fun x => MM.bind f2 fun y => lift (g x y)
theorem op2_to {r : R2} {g : D → D → Res D} (k : ∀ σ ρ G H x y d e (Q : VK), J X.K T c G H σ ρ → Dq X.K G x d → Dq X.K G y e → pX X.K T c W (relD X.K) σ G Q (lift (g d e) ρ) → r x y H Q)
    (σ : St) (H : Hp) (Q : VK) (h : mE X.K T c W (op2 g f1 f2) σ H Q) : tOp r (mE X.K T c W f1) (mE X.K T c W f2) σ H Q := by
  obtain ⟨G, ρ, j, p⟩ := h
  refine pX_bind j p fun x v ρ1 G1 H1 l1 j1 r1 p1 => ?_
  refine pX_bind j1 p1 fun y w ρ2 G2 H2 l2 j2 r2 p2 => ?_
  exact k σ ρ2 G2 H2 v w x y Q j2 (r1.le l2) r2 p2
theorem me_op {op : Operator} {g : D → D → Res D} (ho : Op2 X T c W (binaryOp op) g) (ha : PE X a (mE X.K T c W f1)) (hb : PE X b (mE X.K T c W f2)) : PE X (.BinOp a op b pos) (mE X.K T c W (op2 g f1 f2)) := by
  obtain ⟨r, h, k⟩ := ho
  exact pe_mono (pe_op h ha hb) (op2_to k)
theorem me_cmp {op : CmpOp} {g : D → D → Res D} (ho : Op2 X T c W (compareOp op) g) (ha : PE X a (mE X.K T c W f1)) (hb : PE X b (mE X.K T c W f2)) (hm : behindInMarks op b = false) : PE X (.Compare a [op] [b] pos) (mE X.K T c W (op2 g f1 f2)) := by
  obtain ⟨r, h, k⟩ := ho
  exact pe_mono (pe_cmpR h ha hb hm) (op2_to k)
def toB : D → Res Bool
  | .bool b => .ok b
  | _ => .stuck
def opT (g : D → D → Res D) (f1 f2 : MM D) : MM Bool := MM.bind (op2 g f1 f2) fun x => lift (toB x)
theorem mt_cmp {op : CmpOp} {g : D → D → Res D} (ho : Op2 X T c W (compareOp op) g) (ha : PE X a (mE X.K T c W f1)) (hb : PE X b (mE X.K T c W f2)) (hm : behindInMarks op b = false) : PT X (.Compare a [op] [b] pos) (mT X.K T c W (opT g f1 f2)) := by
  obtain ⟨r, h, k⟩ := ho
  refine pt_mono (pt_cmpR h ha hb hm) fun σ H Q ⟨G, ρ, j, p⟩ => ?_
  refine op2_to k σ H _ (pX_bind j p fun x v ρ1 G1 H1 l1 j1 r1 p1 => ?_)
  cases r1 with
  | bl b => exact ⟨b, rfl, p1.here j1 rfl⟩
  | _ => exact p1.elim
/-- an expression that gives True or False, as a test -/
def tst (f : MM D) : MM Bool := MM.bind f fun x => lift (toB x)
theorem mt_val (h : PE X e (mE X.K T c W f)) (he : ∀ whole, isTrue e X.env whole = (do let v ← whole; standAt e.pos; holding [v] (truthy v)) := by intro _; rfl) : PT X e (mT X.K T c W (tst f)) := by
  refine pt_mono (pt_val h he) fun σ H Q ⟨G, ρ, j, p⟩ => ?_
  refine pX_bind j p fun x v ρ1 G1 H1 l1 j1 r1 p1 => ?_
  cases r1 with
  | bl b => exact ⟨b, rfl, p1.here j1 rfl⟩
  | _ => exact p1.elim
def andT (f g : MM Bool) : MM Bool := MM.bind f fun b => if b = true then g else MM.pure false
def orT (f g : MM Bool) : MM Bool := MM.bind f fun b => if b = true then MM.pure true else g
def notT (f : MM Bool) : MM Bool := MM.bind f fun b => MM.pure (!b)
variable {g1 g2 : MM Bool} {rest : List Expr}
theorem mw_and1 (ha : PT X a (mT X.K T c W g1)) : PW X (.BoolOp .And [a] pos) (mT X.K T c W g1) := pw_and1 ha
theorem mw_or1 (ha : PT X a (mT X.K T c W g1)) : PW X (.BoolOp .Or [a] pos) (mT X.K T c W g1) := pw_or1 ha
theorem mw_and (ha : PT X a (mT X.K T c W g1)) (hb : PW X (.BoolOp .And (b :: rest) pos) (mT X.K T c W g2)) : PW X (.BoolOp .And (a :: b :: rest) pos) (mT X.K T c W (andT g1 g2)) := by
  refine pw_mono (pw_and ha hb) fun σ H Q ⟨G, ρ, j, p⟩ => ?_
  refine pX_bind j p fun x v ρ1 G1 H1 l1 j1 r1 p1 => ?_
  cases r1
  cases x with
  | true => exact ⟨G1, ρ1, j1, p1⟩
  | false => exact p1.here j1 rfl
theorem mw_or (ha : PT X a (mT X.K T c W g1)) (hb : PW X (.BoolOp .Or (b :: rest) pos) (mT X.K T c W g2)) : PW X (.BoolOp .Or (a :: b :: rest) pos) (mT X.K T c W (orT g1 g2)) := by
  refine pw_mono (pw_or ha hb) fun σ H Q ⟨G, ρ, j, p⟩ => ?_
  refine pX_bind j p fun x v ρ1 G1 H1 l1 j1 r1 p1 => ?_
  cases r1
  cases x with
  | true => exact p1.here j1 rfl
  | false => exact ⟨G1, ρ1, j1, p1⟩
theorem mt_not (ha : PT X a (mT X.K T c W g1)) : PT X (.UnaryOp .Not a pos) (mT X.K T c W (notT g1)) := by
  refine pt_mono (pt_not ha) fun σ H Q ⟨G, ρ, j, p⟩ => ?_
  refine pX_bind j p fun x v ρ1 G1 H1 l1 j1 r1 p1 => ?_
  cases r1
  exact p1.here j1 rfl
/-- .. as values -/
def andV (f g : MM D) : MM D := MM.bind f fun x => match x with
  | .bool true => g
  | .bool false => MM.pure (.bool false)
  | _ => stuck
def orV (f g : MM D) : MM D := MM.bind f fun x => match x with
  | .bool true => MM.pure (.bool true)
  | .bool false => g
  | _ => stuck
def notV (f : MM D) : MM D := MM.bind f fun x => match x with
  | .bool b => MM.pure (.bool !b)
  | _ => stuck
theorem me_one {op} (h : PE X a (mE X.K T c W f)) : PE X (.BoolOp op [a] pos) (mE X.K T c W f) := pe_one h
theorem me_and (ha : PE X a (mE X.K T c W f1)) (hb : PE X (.BoolOp .And (b :: rest) pos) (mE X.K T c W f2)) : PE X (.BoolOp .And (a :: b :: rest) pos) (mE X.K T c W (andV f1 f2)) := by
  refine pe_mono (pe_and ha hb) fun σ H Q ⟨G, ρ, j, p⟩ => ?_
  refine pX_bind j p fun x v ρ1 G1 H1 l1 j1 r1 p1 => ?_
  cases r1 with
  | bl b =>
    refine ⟨b, rfl, ?_⟩
    cases b with
    | true => exact ⟨G1, ρ1, j1, p1⟩
    | false => exact p1.here j1 (.bl false)
  | _ => exact p1.elim
theorem me_not (ha : PE X a (mE X.K T c W f)) : PE X (.UnaryOp .Not a pos) (mE X.K T c W (notV f)) := by
  refine pe_mono (pe_not ha) fun σ H Q ⟨G, ρ, j, p⟩ => ?_
  refine pX_bind j p fun x v ρ1 G1 H1 l1 j1 r1 p1 => ?_
  cases r1 with
  | bl b => exact ⟨b, rfl, p1.here j1 (.bl _)⟩
  | _ => exact p1.elim
def ifE (t : MM Bool) (f g : MM D) : MM D := MM.bind t fun b => if b = true then f else g
theorem me_if {t : Expr} (hc : PT X t (mT X.K T c W g1)) (ha : PE X a (mE X.K T c W f1)) (hb : PE X b (mE X.K T c W f2)) : PE X (.IfExp t a b pos) (mE X.K T c W (ifE g1 f1 f2)) := by
  refine pe_mono (pe_ifExp hc ha hb) fun σ H Q ⟨G, ρ, j, p⟩ => ?_
  refine pX_bind j p fun x v ρ1 G1 H1 l1 j1 r1 p1 => ?_
  cases r1
  cases x with
  | true => exact ⟨G1, ρ1, j1, p1⟩
  | false => exact ⟨G1, ρ1, j1, p1⟩
def chainV (g g' : D → D → Res D) (f1 f2 f3 : MM D) : MM D := MM.bind f1 fun x => MM.bind f2 fun y => MM.bind (lift (g x y)) fun z => match z with
  | .bool true => MM.bind f3 fun u => lift (g' y u)
  | .bool false => MM.pure (.bool false)
  | _ => stuck
theorem chain_to {r r' : R2} {g g' : D → D → Res D} {f3 : MM D} (k : ∀ σ ρ G H x y d e (Q : VK), J X.K T c G H σ ρ → Dq X.K G x d → Dq X.K G y e → pX X.K T c W (relD X.K) σ G Q (lift (g d e) ρ) → r x y H Q)
    (k' : ∀ σ ρ G H x y d e (Q : VK), J X.K T c G H σ ρ → Dq X.K G x d → Dq X.K G y e → pX X.K T c W (relD X.K) σ G Q (lift (g' d e) ρ) → r' x y H Q)
    (σ : St) (H : Hp) (Q : VK) (h : mE X.K T c W (chainV g g' f1 f2 f3) σ H Q) : tChain r r' (mE X.K T c W f1) (mE X.K T c W f2) (mE X.K T c W f3) σ H Q := by
  obtain ⟨G, ρ, j, p⟩ := h
  refine pX_bind j p fun x v ρ1 G1 H1 l1 j1 r1 p1 => ?_
  refine pX_bind j1 p1 fun y w ρ2 G2 H2 l2 j2 r2 p2 => ?_
  refine k σ ρ2 G2 H2 v w x y _ j2 (r1.le l2) r2 ?_
  unfold MM.bind at p2
  cases e : g x y with
  | ok z =>
    rw [e] at p2
    intro u G3 H3 l3 j3 r3
    have p3 := pX.le l3 p2
    cases r3 with
    | bl b =>
      refine ⟨b, rfl, ?_⟩
      cases b with
      | true =>
        rw [if_pos rfl]
        refine pX_bind j3 p3 fun z' w' ρ4 G4 H4 l4 j4 r4 p4 => ?_
        exact k' σ ρ4 G4 H4 w w' y z' Q j4 ((r2.le l3).le l4) r4 p4
      | false =>
        rw [if_neg Bool.false_ne_true]
        exact p3.here j3 (.bl false)
    | _ => exact p3.elim
  | exn z =>
    rw [e] at p2
    exact p2
  | stuck =>
    rw [e] at p2
    exact p2
theorem me_chain {op op' : CmpOp} {g g' : D → D → Res D} {d : Expr} {f3 : MM D} (ho : Op2 X T c W (compareOp op) g) (ho' : Op2 X T c W (compareOp op') g') (ha : PE X a (mE X.K T c W f1)) (hb : PE X b (mE X.K T c W f2)) (hd : PE X d (mE X.K T c W f3))
    (hm : lastMarks [op, op'] [b, d] = false := by with_unfolding_all rfl) : PE X (.Compare a [op, op'] [b, d] pos) (mE X.K T c W (chainV g g' f1 f2 f3)) := by
  obtain ⟨r, h, k⟩ := ho
  obtain ⟨r', h', k'⟩ := ho'
  exact pe_mono (pe_chain h h' ha hb hd hm) (chain_to k k')
theorem mt_chain {op op' : CmpOp} {g g' : D → D → Res D} {d : Expr} {f3 : MM D} (ho : Op2 X T c W (compareOp op) g) (ho' : Op2 X T c W (compareOp op') g') (ha : PE X a (mE X.K T c W f1)) (hb : PE X b (mE X.K T c W f2)) (hd : PE X d (mE X.K T c W f3))
    (hm : lastMarks [op, op'] [b, d] = false := by with_unfolding_all rfl) : PT X (.Compare a [op, op'] [b, d] pos) (mT X.K T c W (tst (chainV g g' f1 f2 f3))) := by
  obtain ⟨r, h, k⟩ := ho
  obtain ⟨r', h', k'⟩ := ho'
  refine pt_mono (pt_chain h h' ha hb hd hm) fun σ H Q ⟨G, ρ, j, p⟩ => ?_
  refine chain_to k k' σ H _ (pX_bind j p fun x v ρ1 G1 H1 l1 j1 r1 p1 => ?_)
  cases r1 with
  | bl b => exact ⟨b, rfl, p1.here j1 rfl⟩
  | _ => exact p1.elim
def consA (f : MM D) (g : MM (List D)) : MM (List D) := MM.bind f fun x => MM.bind g fun xs => MM.pure (x :: xs)
theorem ma_nil : PA X [] (mA X.K T c W (MM.pure [])) := pa_mono pa_nil fun σ H Q ⟨G, ρ, j, p⟩ => p.here j .nil
theorem ma_cons {es : List Expr} {g : MM (List D)} (ha : PE X e (mE X.K T c W f)) (hr : PA X es (mA X.K T c W g)) (hs : starEach (e :: es) X.env = (false, eval e X.env) :: starEach es X.env := by rfl) : PA X (e :: es) (mA X.K T c W (consA f g)) := by
  refine pa_mono (pa_cons ha hr hs) fun σ H Q ⟨G, ρ, j, p⟩ => ?_
  refine pX_bind j p fun x v ρ1 G1 H1 l1 j1 r1 p1 => ?_
  refine pX_bind j1 p1 fun y w ρ2 G2 H2 l2 j2 r2 p2 => ?_
  exact p2.here j2 (.cons (r1.le l2) r2)
def small (n : Nat) : Bool := decide (n ≤ sizeLine)
def mkT (xs : List D) : Res D := if small xs.length = true then .ok (.tuple xs) else .stuck
def mkL (xs : List D) : Res D := if small xs.length = true then .ok (.list xs) else .stuck
def tTupF (t : TA) : TE := fun σ H Q => t σ H fun xs H1 => xs.length ≤ sizeLine ∧ ∀ p o, H1 p = none → o.dict = none → Q (.ref p) (upd H1 p (.frz o (.tup xs)))
theorem laidT {pins : List (Addr × Obj)} {s1 : Shared} {σ : St} {H1 : Hp} {us : List Value} {xs : List V} {Q : VK} {t' : Nat} (I1 : Inv X pins σ H1 s1) (r : Vals xs us) (z : xs.length ≤ sizeLine) (q : ∀ p o, H1 p = none → o.dict = none → Q (.ref p) (upd H1 p (.frz o (.tup xs)))) :
    EP X pins σ Q (.ref s1.heap.objs.size) { s1 with heap := s1.heap.push { cls := .type "tuple", data := .seq us.toArray }, toks := t' } := by
  have hf : H1 s1.heap.objs.size = none := I1.hok.fresh (Nat.le_refl _)
  refine ⟨.ref s1.heap.objs.size, upd H1 s1.heap.objs.size (.frz { cls := .type "tuple", data := .seq us.toArray } (.tup xs)), I1.laid (t' := t') (fun b u e => Heap.get?_push_of_some _ e) (Nat.le_refl _) ?_, rfl, q _ _ hf rfl⟩
  exact ⟨Heap.get?_push_size _ rfl, z, us, r, ⟨_, Heap.get?_push_size _ rfl, rfl, _, rfl⟩⟩
theorem pe_tupF {es : List Expr} {t : TA} {x1} (h : PA X es t) : PE X (.Tuple es x1 pos) (tTupF t) := by
  refine ⟨fun pins s σ H Q I hq => ?_⟩
  refine wpAny_Tuple_spliced (thn (h.run pos pins s σ H _ I hq) fun us s1 ⟨xs, H1, I1, r, z, q⟩ => ⟨by rw [← r.length]; exact z, ?_⟩)
  exact laidT I1 r z q
theorem J.newT {K : Fg} {T : Tb} {c : Gh} {G : Wd} {H : Hp} {σ : St} {ρ : MSt} {p : Addr} {o : Obj} {vs : List V} {ds : List D} (j : J K T c G H σ ρ) (hp : H p = none) (ho : o.dict = none) (r : DqAll K G vs ds) : Dq K (wupd G p (.frz o (.tup vs))) (.ref p) (.tuple ds) :=
  .tup (.inl ⟨o, upd_same, ho⟩) (r.le (Le.upd (j.fresh hp)))
theorem me_tup {es : List Expr} {g : MM (List D)} {x1} (h : PA X es (mA X.K T c W g)) : PE X (.Tuple es x1 pos) (mE X.K T c W (MM.bind g fun xs => lift (mkT xs))) := by
  refine pe_mono (pe_tupF h) fun σ H Q ⟨G, ρ, j, p⟩ => ?_
  refine pX_bind j p fun x v ρ1 G1 H1 l1 j1 r1 p1 => ?_
  unfold mkT at p1
  split at p1
  · rename_i hs
    refine ⟨by rw [r1.length]; exact of_decide_eq_true hs, fun p o hp ho => ?_⟩
    exact p1 _ _ _ (Le.upd (j1.fresh hp)) (j1.grow hp) (j1.newT hp ho r1)
  · exact p1.elim
theorem me_lst {es : List Expr} {g : MM (List D)} (h : PA X es (mA X.K T c W g)) : PE X (.List es pos) (mE X.K T c W (MM.bind g fun xs => lift (mkL xs))) := by
  refine pe_mono (pe_lst h) fun σ H Q ⟨G, ρ, j, p⟩ => ?_
  refine pX_bind j p fun x v ρ1 G1 H1 l1 j1 r1 p1 => ?_
  unfold mkL at p1
  split at p1
  · rename_i hs
    refine ⟨by rw [r1.length]; exact of_decide_eq_true hs, fun p hp => ?_⟩
    exact p1 _ _ _ (Le.upd (j1.fresh hp)) (j1.grow hp) (.lst (.inl upd_same) (r1.le (Le.upd (j1.fresh hp))))
  · exact p1.elim
end
end Mi
set_option Elab.async false
set_option linter.all false
set_option maxRecDepth 100000
set_option maxHeartbeats 4000000
namespace Mi
open PySem L2
inductive Fl where
  | nx | rt (d : D) | bk | ct
section
variable (K : Fg) (T : Tb) (c : Gh) (W : WX)
def pS (Dn : Ends) (G : Wd) : Out Fl → Prop
  | .ok .nx ρ' => ∀ σ' G' H', Le G G' → J K T c G' H' σ' ρ' → Dn.nx σ' H'
  | .ok (.rt d) ρ' => ∀ v σ' G' H', Le G G' → J K T c G' H' σ' ρ' → Dq K G' v d → Dn.rt v H'
  | .ok .bk ρ' => ∀ σ' G' H', Le G G' → J K T c G' H' σ' ρ' → Dn.bk σ' H'
  | .ok .ct ρ' => ∀ σ' G' H', Le G G' → J K T c G' H' σ' ρ' → Dn.ct σ' H'
  | .exn e ρ' => ∀ cls dx σ' G' H', Le G G' → J K T c G' H' σ' ρ' → IsX K G'.hp e cls dx → W cls dx σ' H'
  | .stuck => False
def mS (f : MM Fl) : TS := fun Dn σ H => ∃ G ρ, J K T c G H σ ρ ∧ pS K T c W Dn G (f ρ)
/-- targets: vs the slots that they may change -/
def pG (vs : List Nat) (σ : St) (G : Wd) (Q : St → Hp → Prop) : Option MSt → Prop
  | some ρ' => ∀ σ' G' H', wipe σ' vs = wipe σ vs → Le G G' → J K T c G' H' σ' ρ' → Q σ' H'
  | none => False
def mG (rel : Wd → V → D → Prop) (vs : List Nat) (g : D → MSt → Option MSt) : TG := fun v σ H Q => ∃ G ρ d, J K T c G H σ ρ ∧ rel G v d ∧ pG K T c vs σ G Q (g d ρ)
def mGs (vs : List Nat) (g : List D → MSt → Option MSt) : TGs := fun xs σ H Q => ∃ G ρ ds, J K T c G H σ ρ ∧ DqAll K G xs ds ∧ pG K T c vs σ G Q (g ds ρ)
end
section
variable {K : Fg} {T : Tb} {c : Gh} {W : WX} {Dn : Ends} {G G1 : Wd} {H : Hp} {σ : St} {ρ : MSt} {o : Out Fl}
theorem pS.le (l : Le G G1) (h : pS K T c W Dn G o) : pS K T c W Dn G1 o := by
  cases o with
  | ok a ρ' => cases a with
    | nx => exact fun σ' G' H' l' => h σ' G' H' (l.trans l')
    | rt d => exact fun v σ' G' H' l' => h v σ' G' H' (l.trans l')
    | bk => exact fun σ' G' H' l' => h σ' G' H' (l.trans l')
    | ct => exact fun σ' G' H' l' => h σ' G' H' (l.trans l')
  | exn e ρ' => exact fun cls dx σ' G' H' l' => h cls dx σ' G' H' (l.trans l')
  | stuck => exact h
theorem pS_bind {α β : Type} {rel : Wd → β → α → Prop} {R : β → Hp → Prop} {f : MM α} {g : α → MM Fl} (j : J K T c G H σ ρ) (p : pS K T c W Dn G (MM.bind f g ρ))
    (k : ∀ a b ρ1 G1 H1, Le G G1 → J K T c G1 H1 σ ρ1 → rel G1 b a → pS K T c W Dn G1 (g a ρ1) → R b H1) : mX K T c W rel f σ H R := by
  refine ⟨G, ρ, j, ?_⟩
  unfold MM.bind at p
  cases e : f ρ with
  | ok a ρ1 =>
    rw [e] at p
    exact fun b G1 H1 l j1 r => k a b ρ1 G1 H1 l j1 r (pS.le l p)
  | exn x ρ1 =>
    rw [e] at p
    exact fun cls dx G' H' l j' i => p cls dx σ G' H' l j' i
  | stuck =>
    rw [e] at p
    exact p
end
def seqS (f g : MM Fl) : MM Fl := MM.bind f fun fl => match fl with
  | .nx => g
  | o => MM.pure o
def ifS (t : MM Bool) (f g : MM Fl) : MM Fl := MM.bind t fun b => if b = true then f else g
def setD (i : Nat) (d : D) : MSt → Option MSt := fun ρ => if i + 1 < ρ.length then some (ρ.set i (some (.d d))) else none
section
variable {X : Cx} {T : Tb} {c : Gh} {W : WX} {e : Expr} {f : MM D} {st : Stmt} {rest : List Stmt} {s1 s2 : MM Fl} {pos : Pos}
theorem ms_seq (h1 : PS X st (mS X.K T c W s1)) (h2 : PSs X rest (mS X.K T c W s2)) : PSs X (st :: rest) (mS X.K T c W (seqS s1 s2)) := by
  refine pss_mono (pss_cons h1 h2) fun Dn σ H ⟨G, ρ, j, p⟩ => ⟨G, ρ, j, ?_⟩
  unfold seqS MM.bind at p
  cases e : s1 ρ with
  | ok a ρ1 =>
    rw [e] at p
    cases a with
    | nx => exact fun σ' G' H' l j' => ⟨G', ρ1, j', pS.le l p⟩
    | rt d => exact p
    | bk => exact p
    | ct => exact p
  | exn x ρ1 => rw [e] at p; exact p
  | stuck => rw [e] at p; exact p
theorem ms_nil : PSs X [] (mS X.K T c W (MM.pure .nx)) := pss_mono pss_nil fun Dn σ H ⟨G, ρ, j, p⟩ => p σ G H (Le.refl G) j
theorem ms_one (h1 : PS X st (mS X.K T c W s1)) : PSs X [st] (mS X.K T c W s1) := pss_one h1
def retS (f : MM D) : MM Fl := MM.bind f fun d => MM.pure (.rt d)
theorem ms_ret (he : PE X e (mE X.K T c W f)) : PS X (.Return (some e) pos) (mS X.K T c W (retS f)) := by
  refine ps_mono (ps_ret he) fun Dn σ H ⟨G, ρ, j, p⟩ => ?_
  exact pS_bind j p fun x v ρ1 G1 H1 l1 j1 r1 p1 => p1 v σ G1 H1 (Le.refl G1) j1 r1
def exprS (f : MM D) : MM Fl := MM.bind f fun _ => MM.pure .nx
theorem ms_expr (he : PE X e (mE X.K T c W f)) (hs : swapsWith e none pos.line X.env = pure false := by rfl) : PS X (.Expr e pos) (mS X.K T c W (exprS f)) := by
  refine ps_mono (ps_expr he hs) fun Dn σ H ⟨G, ρ, j, p⟩ => ?_
  exact pS_bind j p fun x v ρ1 G1 H1 l1 j1 r1 p1 => p1 σ G1 H1 (Le.refl G1) j1
theorem ms_if {t : Expr} {a b : List Stmt} {g : MM Bool} (hc : PT X t (mT X.K T c W g)) (ha : PSs X a (mS X.K T c W s1)) (hb : PSs X b (mS X.K T c W s2)) : PS X (.If t a b pos) (mS X.K T c W (ifS g s1 s2)) := by
  refine ps_mono (ps_if hc ha hb) fun Dn σ H ⟨G, ρ, j, p⟩ => ?_
  refine pS_bind j p fun x v ρ1 G1 H1 l1 j1 r1 p1 => ?_
  cases r1
  cases x with
  | true => exact ⟨G1, ρ1, j1, p1⟩
  | false => exact ⟨G1, ρ1, j1, p1⟩
theorem wipe_set {σ : St} {i : Nat} {v : Option V} : ∀ {vs : List Nat}, i ∈ vs → wipe (σ.set i v) vs = wipe σ vs
  | [], h => by cases h
  | k :: vs, h => by
    show (wipe (σ.set i v) vs).set k none = (wipe σ vs).set k none
    by_cases z : i ∈ vs
    · rw [wipe_set z]
    · have e : i = k := by
        rcases List.mem_cons.mp h with e | e
        · exact e
        · exact absurd e z
      subst e
      have : ∀ ws : List Nat, i ∉ ws → (wipe (σ.set i v) ws) = (wipe σ ws).set i v := by
        intro ws
        induction ws with
        | nil => intro _; rfl
        | cons y ws ih =>
          intro hn
          have h1 : i ≠ y := fun q => hn (by rw [q]; exact List.mem_cons_self)
          show (wipe (σ.set i v) ws).set y none = ((wipe σ ws).set y none).set i v
          rw [ih (fun q => hn (List.mem_cons_of_mem _ q)), List.set_comm _ _ h1]
      rw [this vs z, List.set_set]
theorem mg_name {i : Nat} {x : Str} (hN : X.N.Nodup) (hi : X.N[i]? = some x) (hx : Loc X.env.scope x) (hf : X.fn x = true ∨ X.env.scope.names.lookup x = some .local := by first | exact .inl rfl | exact .inr rfl | assumption) : PG X (.Name x pos) (mG X.K T c (relD X.K) [i] (setD i)) := by
  have h := pg_name (X := X) (pos := pos) hN hi hx hf
  refine ⟨fun pins s σ H v u Q I r q => h.run pins s σ H v u Q I r ?_⟩
  obtain ⟨G, ρ, d, j, dq, p⟩ := q
  unfold setD at p
  split at p
  · rename_i hl
    exact p _ G H (wipe_set (by simp)) (Le.refl G) (j.set hl dq)
  · exact p.elim
/-- (a, b, ..): the slots of the names -/
def setMany : List Nat → List D → MSt → Option MSt
  | [], [], ρ => some ρ
  | i :: is, d :: ds, ρ => if i + 1 < ρ.length then setMany is ds (ρ.set i (some (.d d))) else none
  | _, _, _ => none
theorem mgs_nil : PGs X [] (mGs X.K T c [] (setMany [])) := by
  refine ⟨fun pins s σ H vs us Q I r q => (pgs_nil (X := X)).run pins s σ H vs us Q I r ?_⟩
  obtain ⟨G, ρ, ds, j, dq, p⟩ := q
  cases dq with
  | nil => exact ⟨rfl, p σ G H rfl (Le.refl G) j⟩
  | cons _ _ => exact p.elim
theorem wipe_more {σ σ' : St} {i : Nat} : ∀ {vs : List Nat}, wipe σ' vs = wipe σ vs → wipe σ' (i :: vs) = wipe σ (i :: vs) := fun h => by
  show (wipe σ' _).set i none = (wipe σ _).set i none
  rw [h]
theorem mgs_cons {i : Nat} {is : List Nat} {x : Str} {es : List Expr} (hN : X.N.Nodup) (hi : X.N[i]? = some x) (hx : Loc X.env.scope x) (h2 : PGs X es (mGs X.K T c is (setMany is)))
    (hf : X.fn x = true ∨ X.env.scope.names.lookup x = some .local := by first | exact .inl rfl | exact .inr rfl | assumption)
    (hs : (assignEach (.Name x pos :: es) X.env).map (·.2) = assign (.Name x pos) X.env :: (assignEach es X.env).map (·.2) := by rfl) : PGs X (.Name x pos :: es) (mGs X.K T c (i :: is) (setMany (i :: is))) := by
  have h := pgs_cons (X := X) (pg_name (X := X) (pos := pos) hN hi hx hf) h2 hs
  refine ⟨fun pins s σ H vs us Q I r q => h.run pins s σ H vs us Q I r ?_⟩
  obtain ⟨G, ρ, ds, j, dq, p⟩ := q
  cases dq with
  | nil => exact p.elim
  | cons d1 dr =>
    unfold setMany at p
    split at p
    · rename_i hl
      refine ⟨_, _, rfl, G, _, _, j.set hl d1, dr, ?_⟩
      cases e : setMany is _ (ρ.set i (some (.d _))) with
      | none => rw [e] at p; exact p.elim
      | some ρ' =>
        rw [e] at p
        exact fun σ' G' H' w l j' => p σ' G' H' (by
          have := wipe_more (i := i) w
          rw [this, wipe_set List.mem_cons_self]) l j'
    · exact p.elim
def setT (is : List Nat) : D → MSt → Option MSt
  | .tuple ds => setMany is ds
  | _ => fun _ => none
/-- a tuple, be its object told or not -/
abbrev relY (K : Fg) : Wd → V → D → Prop := fun G v d => Dq K G v d ∨ ∃ a xs ds, v = .ref a ∧ d = .tuple ds ∧ SqT K G a xs ∧ DqAll K G xs ds
theorem mg_tup {es : List Expr} {k : Nat} {is : List Nat} (hc : X.calm = true) (h : PGs X es (mGs X.K T c is (setMany is))) (hl : es.length = is.length := by rfl)
    (hn : (assignEach es X.env).length = is.length := by rfl) (hst : (assignEach es X.env).findIdx? (·.1) = none := by rfl) : PG X (.Tuple es k pos) (mG X.K T c (relY X.K) is (setT is)) := by
  have h0 := pg_tup (X := X) (k := k) (pos := pos) hc h hn hst
  refine ⟨fun pins s σ H v u Q I r q => h0.run pins s σ H v u Q I r ?_⟩
  obtain ⟨G, ρ, d, j, dq, p⟩ := q
  have hlen : ∀ (is : List Nat) (ds : List D) (ρ : MSt), ds.length ≠ is.length → setMany is ds ρ = none := by
    intro is
    induction is with
    | nil => intro ds ρ hn; cases ds with | nil => exact absurd rfl hn | cons _ _ => rfl
    | cons i is ih =>
      intro ds ρ hn
      cases ds with
      | nil => rfl
      | cons d ds =>
        unfold setMany
        split
        · exact ih ds _ (by simpa using hn)
        · rfl
  have fin : ∀ {a : Addr} {xs : List V} {ds : List D}, SqT X.K G a xs → DqAll X.K G xs ds → pG X.K T c is σ G Q (setMany is ds ρ) → gTup X.K is.length (mGs X.K T c is (setMany is)) (.ref a) σ H Q := fun {a xs ds} hq hr p => by
    by_cases z : ds.length = is.length
    · exact ⟨a, xs, rfl, sqT_sub hq j.subH, by rw [hr.length, z], G, ρ, ds, j, hr, p⟩
    · rw [hlen is ds ρ z] at p
      exact p.elim
  rcases dq with dq | ⟨a, xs, ds, rfl, rfl, hq, hr⟩
  · cases dq with
    | tup hq hr => exact fin hq.sq hr p
    | _ => exact p.elim
  · exact fin hq hr p
theorem mg_sub {tg : Expr} {vs : List Nat} {g : D → MSt → Option MSt} (h : PG X tg (mG X.K T c (relY X.K) vs g)) : PG X tg (mG X.K T c (relD X.K) vs g) :=
  ⟨fun pins s σ H v u Q I r ⟨G, ρ, d, j, dq, p⟩ => h.run pins s σ H v u Q I r ⟨G, ρ, d, j, .inl dq, p⟩⟩
theorem mg_tupD {es : List Expr} {k : Nat} {is : List Nat} (hc : X.calm = true) (h : PGs X es (mGs X.K T c is (setMany is))) (hl : es.length = is.length := by rfl)
    (hn : (assignEach es X.env).length = is.length := by rfl) (hst : (assignEach es X.env).findIdx? (·.1) = none := by rfl) : PG X (.Tuple es k pos) (mG X.K T c (relD X.K) is (setT is)) := mg_sub (mg_tup hc h hl hn hst)
/-- target = e -/
def asgS (f : MM D) (g : D → MSt → Option MSt) : MM Fl := MM.bind f fun d => fun ρ => match g d ρ with
  | some ρ' => .ok .nx ρ'
  | none => .stuck
theorem asg_to {vs : List Nat} {g : D → MSt → Option MSt} (Dn : Ends) (σ : St) (H : Hp) (h : mS X.K T c W (asgS f g) Dn σ H) : tAsg (mE X.K T c W f) (mG X.K T c (relD X.K) vs g) Dn σ H := by
  obtain ⟨G, ρ, j, p⟩ := h
  refine pS_bind j p fun x v ρ1 G1 H1 l1 j1 r1 p1 => ⟨G1, ρ1, x, j1, r1, ?_⟩
  cases e : g x ρ1 with
  | some ρ2 =>
    rw [e] at p1
    exact fun σ' G' H' _ l j' => p1 σ' G' H' l j'
  | none => rw [e] at p1; exact p1.elim
theorem ms_asg {tg : Expr} {vs : List Nat} {g : D → MSt → Option MSt} (he : PE X e (mE X.K T c W f)) (hg : PG X tg (mG X.K T c (relD X.K) vs g)) (hs : swapsWithSole [tg] e pos.line X.env = pure false := by rfl) (hw : swappedStores [tg] e X.env = pure none := by rfl)
    (h1 : (assignEach [tg] X.env).map (·.2) = [assign tg X.env] := by rfl) : PS X (.Assign [tg] e pos) (mS X.K T c W (asgS f g)) := ps_mono (ps_asg he hg hs hw h1) asg_to
theorem ms_set {i : Nat} {x : Str} {pos' : Pos} (hN : X.N.Nodup) (hi : X.N[i]? = some x) (hx : Loc X.env.scope x) (he : PE X e (mE X.K T c W f)) (hs : swapsWith e (some (.Name x pos')) pos.line X.env = pure false := by rfl) (hf : X.fn x = true ∨ X.env.scope.names.lookup x = some .local := by first | exact .inl rfl | exact .inr rfl | assumption) :
    PS X (.Assign [.Name x pos'] e pos) (mS X.K T c W (asgS f (setD i))) := by
  refine ps_mono (ps_set (pos' := pos') hN hi hx he hs hf) fun Dn σ H ⟨G, ρ, j, p⟩ => ?_
  refine pS_bind j p fun x v ρ1 G1 H1 l1 j1 r1 p1 => ?_
  unfold setD at p1
  split at p1
  · rename_i hq
    split at hq
    · rename_i hl
      cases hq
      exact p1 _ G1 H1 (Le.refl G1) (j1.set hl r1)
    · cases hq
  · exact p1.elim
/-- a, b, c = x, y, z with plain local names -/
def tPar3 (i j k : Nat) (ta : TA) : TS := fun D σ H => ta σ H fun vs H1 => ∃ v w u, vs = [v, w, u] ∧ D.nx (((σ.set i (some v)).set j (some w)).set k (some u)) H1
theorem ps_par3 {i j k : Nat} {x y z : Str} {a b d : Expr} {ta : TA} {px py pz pt : Pos} {kt k2 pt2} (hc : X.calm = true) (hN : X.N.Nodup) (hi : X.N[i]? = some x) (hj : X.N[j]? = some y) (hk : X.N[k]? = some z) (hij : i ≠ j) (hik : i ≠ k) (hjk : j ≠ k)
    (hx : X.env.scope.names.lookup x = some .local) (hy : X.env.scope.names.lookup y = some .local) (hz : X.env.scope.names.lookup z = some .local) (ha : PA X [a, b, d] ta)
    (hw : swappedStores [.Tuple [.Name x px, .Name y py, .Name z pz] kt pt] (.Tuple [a, b, d] k2 pt2) X.env = pure (some [x, y, z]))
    (hs : swapsWithSole [.Tuple [.Name x px, .Name y py, .Name z pz] kt pt] (.Tuple [a, b, d] k2 pt2) pos.line X.env = pure false := by rfl) :
    PS X (.Assign [.Tuple [.Name x px, .Name y py, .Name z pz] kt pt] (.Tuple [a, b, d] k2 pt2) pos) (tPar3 i j k ta) := by
  refine ⟨fun pins s σ H D I h => ?_⟩
  rw [exec_Assign_arm]
  refine wpAny_bind (wpAny_standAt ?_)
  rw [hs]
  refine wpAny_bind (wpAny_pure ?_)
  rw [if_neg (by decide)]
  refine wpAny_bind (PyProof.Rows.Tuple_ (thn (ha.run _ pins s σ H _ I h) fun us s1 ⟨vs, H1, I1, r1, q1⟩ => ?_))
  obtain ⟨v, w, u, e1, q1⟩ := q1
  subst e1
  obtain ⟨u1, u2, u3, rfl, rv, rw', ru⟩ : ∃ u1 u2 u3, us = [u1, u2, u3] ∧ RelV v u1 ∧ RelV w u2 ∧ RelV u u3 := by
    cases r1 with
    | cons p q =>
      cases q with
      | cons p' q' =>
        cases q' with
        | cons p'' q'' =>
          cases q''
          exact ⟨_, _, _, rfl, p, p', p''⟩
  refine wpAny_newObj_type ?_ (by show 3 ≤ sizeLine; decide)
  have I2 : Inv X pins σ H1 { s1 with heap := s1.heap.push { cls := .type "tuple", data := .seq [u1, u2, u3].toArray } } := I1.kept (t' := s1.toks) fun b o e => Heap.get?_push_of_some _ e
  rw [hw]
  refine wpAny_bind (wpAny_pure ?_)
  show wpAny (model X.prog X.w) X.A (do rule "assign.swapped-stores"; let items ← unpackItems (.ref s1.heap.objs.size) 3 none; assignInOrder [fun v => bindName X.env z v, fun v => bindName X.env y v, fun v => bindName X.env x v] items.reverse; pure Flow.next) _ _ _
  refine wpAny_bind (wpAny_rule (wpAny_bind (PyProof.Rows.unpackItems_tuple (items := #[u1, u2, u3]) (I.ok.hd hc) (PyProof.Rows.IsTup.new s1.heap _) fun h' hx' => ?_)))
  have I3 := I2.kept (h' := h') (t' := s1.toks) fun b o e => hx' b o (Nat.ne_of_lt (Heap.lt_size e)) e
  show wpAny _ _ (assignInOrder [fun v => bindName X.env z v, fun v => bindName X.env y v, fun v => bindName X.env x v] [u3, u2, u1] >>= fun _ => pure Flow.next) _ _ _
  refine wpAny_bind (PyProof.Rows.assignInOrder_cons (wpAny_bindName (store_ok I3 hN hk (.inl hz) ru (fun s2 I4 => ?_) (.inr hz))))
  refine PyProof.Rows.assignInOrder_cons (wpAny_bindName (store_ok I4 hN hj (.inl hy) rw' (fun s3 I5 => ?_) (.inr hy)))
  refine PyProof.Rows.assignInOrder_cons (wpAny_bindName (store_ok I5 hN hi (.inl hx) rv (fun s4 I6 => PyProof.Rows.assignInOrder_nil (wpAny_pure ?_)) (.inr hx)))
  rw [List.set_comm _ _ (Ne.symm hij), List.set_comm _ _ (Ne.symm hik), List.set_comm _ _ (Ne.symm hjk)] at I6
  exact ⟨_, H1, I6, q1⟩
end
end Mi
set_option Elab.async false
set_option linter.all false
set_option maxRecDepth 100000
set_option maxHeartbeats 4000000
namespace Mi
open PySem L2
/-- what is locked stands still -/
def Frm (c : Gh) (H : Hp) : Prop := ∀ a ∈ c.lk, ∀ o, c.H0 a = some o → H a = some o
theorem J.frm {K : Fg} {T : Tb} {c : Gh} {G : Wd} {H : Hp} {σ : St} {ρ : MSt} (j : J K T c G H σ ρ) : Frm c H := fun a m o e => by
  obtain ⟨nM, o', es, h0⟩ := j.mj.wf a m
  rw [h0] at e; cases e
  exact j.fr a _ h0 nM (fun _ z => by cases z)
structure Gives (rel : Wd → V → D → Prop) (Jt : It) (c : Gh) (G0 : Wd) (xs : List D) : Prop where
  go : ∀ i G H, Le G0 G → Lh G H → Frm c H → i < xs.length → Jt.go i H
  stop : ∀ G H, Le G0 G → Lh G H → Frm c H → Jt.stop xs.length H
  yld : ∀ i G H x H', Le G0 G → Lh G H → Frm c H → i < xs.length → Jt.yld i H x H' → ∃ d, xs[i]? = some d ∧ ((H' = H ∧ rel G x d) ∨ ∃ p o, H p = none ∧ (∀ ps, o ≠ .tbl ps) ∧ H' = upd H p o ∧ rel (wupd G p o) x d)
abbrev relI (c : Gh) (rel : Wd → V → D → Prop) : Wd → It → List D → Prop := fun G Jt xs => Gives rel Jt c G xs
def mI (K : Fg) (T : Tb) (c : Gh) (W : WX) (rel : Wd → V → D → Prop) (f : MM (List D)) : TI := mX K T c W (relI c rel) f
theorem gives_list {K : Fg} {c : Gh} {G : Wd} {a : Addr} {vs : List V} {ds : List D} (hq : SqL K G a vs) (hr : DqAll K G vs ds) : Gives (relD K) (Itl K a) c G ds where
  go := fun i G1 H l1 l2 _ hi => by
    have hi' : i < vs.length := by rw [hr.length]; exact hi
    exact ⟨vs, vs[i], sqL_sub (sqL_sub hq l1.sub) l2.sub, by simp [hi']⟩
  stop := fun G1 H l1 l2 _ => ⟨vs, sqL_sub (sqL_sub hq l1.sub) l2.sub, by rw [hr.length]; exact Nat.le_refl _⟩
  yld := fun i G1 H x H' l1 l2 _ hi y => by
    obtain ⟨e, y⟩ := y
    have hx := y vs (sqL_sub (sqL_sub hq l1.sub) l2.sub)
    obtain ⟨d, e1, e2⟩ := hr.get hx
    exact ⟨d, e1, .inl ⟨e, e2.le l1⟩⟩
theorem gives_tup {K : Fg} {c : Gh} {G : Wd} {a : Addr} {vs : List V} {ds : List D} (hq : SqT K G a vs) (hr : DqAll K G vs ds) : Gives (relD K) (Itt K a) c G ds where
  go := fun i G1 H l1 l2 _ hi => by
    have hi' : i < vs.length := by rw [hr.length]; exact hi
    exact ⟨vs, vs[i], sqT_sub (sqT_sub hq l1.sub) l2.sub, by simp [hi']⟩
  stop := fun G1 H l1 l2 _ => ⟨vs, sqT_sub (sqT_sub hq l1.sub) l2.sub, by rw [hr.length]; exact Nat.le_refl _⟩
  yld := fun i G1 H x H' l1 l2 _ hi y => by
    obtain ⟨e, y⟩ := y
    have hx := y vs (sqT_sub (sqT_sub hq l1.sub) l2.sub)
    obtain ⟨d, e1, e2⟩ := hr.get hx
    exact ⟨d, e1, .inl ⟨e, e2.le l1⟩⟩
def charsD (s : Str) : List D := s.cps.toList.map fun ch => .str ⟨#[ch]⟩
theorem gives_str {K : Fg} {c : Gh} {G : Wd} {s : Str} : Gives (relD K) (Its s) c G (charsD s) where
  go := fun i G1 H l1 l2 _ hi => by
    simp only [charsD, List.length_map, Array.length_toList] at hi
    exact hi
  stop := fun G1 H l1 l2 _ => by
    show s.cps.size ≤ (charsD s).length
    simp [charsD]
  yld := fun i G1 H x H' l1 l2 _ hi y => by
    obtain ⟨e, ch, h1, h2⟩ := y
    refine ⟨.str ⟨#[ch]⟩, ?_, .inl ⟨e, by rw [h2]; exact .str _⟩⟩
    simp only [charsD, List.getElem?_map, Array.getElem?_toList, h1]
    rfl
section
variable {X : Cx} {T : Tb} {c : Gh} {W : WX} {e tg iter : Expr} {f : MM D} {pos : Pos}
theorem pi_seq {te : TE} (he : PE X e te) : PI X tg e (fun σ H R => te σ H fun x H1 => (∃ a, x = .ref a ∧ (∃ xs, SqL X.K H1 a xs) ∧ R (Itl X.K a) H1) ∨ (∃ a, x = .ref a ∧ (∃ xs, SqT X.K H1 a xs) ∧ R (Itt X.K a) H1) ∨ ∃ s, x = .str s ∧ R (Its s) H1) := by
  refine ⟨fun pins s σ H R I h => ?_⟩
  refine thn (he.run pins s σ H _ I h) fun v s1 ⟨x, H1, I1, r1, q1⟩ => ?_
  rcases q1 with ⟨a, e, hq, q⟩ | ⟨a, e, hq, q⟩ | ⟨z, e, q⟩
  · subst e
    cases r1
    obtain ⟨xs, hq⟩ := hq
    obtain ⟨its, rv, p, hz⟩ := I1.list hq
    refine wpAny_pyIter_list p.isList ?_
    refine ⟨s1.heap.objs.size, [s1.heap.objs.size], _, _, H1, rfl, I1.kept (t' := s1.toks) fun b o e => Heap.get?_push_of_some _ e, turn_list a _, ⟨_, Heap.get?_push_size _ rfl, rfl, rfl⟩, fun b hb => ?_, q⟩
    have e : b = s1.heap.objs.size := by simpa using hb
    subst e
    exact I1.fpOk (Nat.le_refl _) (I1.hok.fresh (Nat.le_refl _))
  · subst e
    cases r1
    obtain ⟨xs, hq⟩ := hq
    obtain ⟨its, rv, p, hz⟩ := I1.tuple hq
    refine wpAny_pyIter_tuple (show s1.heap.IsTuple a its.toArray from p) ?_
    refine ⟨s1.heap.objs.size, [s1.heap.objs.size], _, _, H1, rfl, I1.kept (t' := s1.toks) fun b o e => Heap.get?_push_of_some _ e, turn_tuple a _, ⟨_, Heap.get?_push_size _ rfl, rfl, rfl⟩, fun b hb => ?_, q⟩
    have e : b = s1.heap.objs.size := by simpa using hb
    subst e
    exact I1.fpOk (Nat.le_refl _) (I1.hok.fresh (Nat.le_refl _))
  · subst e
    obtain ⟨t, rfl⟩ := r1
    cases ha : z.cps.all (· < 128)
    · exact wpAny_pyIter_wide ha (pi_one (tk := s1.toks) I1 _ (turn_str _ z t "str_iterator" (.inr rfl)) ⟨_, Heap.get?_push_size _ rfl, rfl, rfl⟩ q)
    · exact wpAny_pyIter_ascii ha (pi_one (tk := s1.toks) I1 _ (turn_str _ z t "str_ascii_iterator" (.inl rfl)) ⟨_, Heap.get?_push_size _ rfl, rfl, rfl⟩ q)
def upTo (lo : Int) (n : Nat) : List D := (List.range n).map fun (i : Nat) => .int (lo + i)
theorem gives_range {K : Fg} {c : Gh} {G : Wd} {lo : Int} {n : Nat} : Gives (relD K) (Itr lo n) c G (upTo lo n) where
  go := fun i G1 H l1 l2 _ hi => by show i < n; simpa [upTo] using hi
  stop := fun G1 H l1 l2 _ => by show n ≤ _; simp [upTo]
  yld := fun i G1 H x H' l1 l2 _ hi y => by
    obtain ⟨e, h2⟩ := y
    refine ⟨.int (lo + i), ?_, .inl ⟨e, by rw [h2]; exact .int _⟩⟩
    have hi' : i < n := by simpa [upTo] using hi
    simp [upTo, hi']
def inB (i : Int) : Bool := decide (-(2 ^ 62) ≤ i) && decide (i < 2 ^ 62)
theorem inB_ok {i : Int} (h : inB i = true) : -(2 ^ 62) ≤ i ∧ i < 2 ^ 62 := by
  unfold inB at h
  simpa using h
def range1 : List D → Res (List D)
  | [.int j] => if inB j = true then .ok (upTo 0 j.toNat) else .stuck
  | _ => .stuck
def range2 : List D → Res (List D)
  | [.int i, .int j] => if inB i = true ∧ inB j = true then .ok (upTo i (j - i).toNat) else .stuck
  | _ => .stuck
theorem mi_range1 {a : Expr} {g : MM (List D)} {p : Pos} (hg : Gl X "range") (hm : X.mg "range" = none) (ha : PA X [a] (mA X.K T c W g)) (hs : starEach [a] X.env = [(false, eval a X.env)] := by rfl) :
    PI X tg (.Call (.Name "range" p) [a] [] pos) (mI X.K T c W (relD X.K) (MM.bind g fun ds => lift (range1 ds))) := by
  refine ⟨fun pins s σ H R I h => (pi_range1 (tg := tg) hg hm ha hs).run pins s σ H R I ?_⟩
  obtain ⟨G, ρ, j, p⟩ := h
  refine pX_bind j p fun ds vs ρ1 G1 H1 l1 j1 r1 p1 => ?_
  cases r1 with
  | nil => exact p1.elim
  | cons d1 r1 =>
    cases r1 with
    | cons _ _ => cases d1 <;> exact p1.elim
    | nil =>
      cases d1 with
      | int k =>
        have p2 : pX X.K T c W (relI c (relD X.K)) σ G1 R (lift (if inB k = true then .ok (upTo 0 k.toNat) else .stuck) ρ1) := p1
        by_cases hk : inB k = true
        · rw [if_pos hk] at p2
          exact ⟨k, rfl, (inB_ok hk).1, (inB_ok hk).2, p2 _ G1 H1 (Le.refl G1) j1 gives_range⟩
        · rw [if_neg hk] at p2
          exact p2.elim
      | _ => exact p1.elim
def forD (g : D → MSt → Option MSt) (b : MM Fl) : List D → MM Fl
  | [] => MM.pure .nx
  | x :: xs => fun ρ => match g x ρ with
    | none => .stuck
    | some ρ1 => match b ρ1 with
      | .ok .nx ρ2 => forD g b xs ρ2
      | .ok .ct ρ2 => forD g b xs ρ2
      | .ok .bk ρ2 => .ok .nx ρ2
      | .ok (.rt d) ρ2 => .ok (.rt d) ρ2
      | .exn y ρ2 => .exn y ρ2
      | .stuck => .stuck
theorem drop_cons {xs : List D} {i : Nat} {d : D} (h : xs[i]? = some d) : xs.drop i = d :: xs.drop (i + 1) := by
  obtain ⟨hi, e⟩ := List.getElem?_eq_some_iff.mp h
  rw [List.drop_eq_getElem_cons hi, e]
theorem ms_for {body : List Stmt} {vs : List Nat} {g : D → MSt → Option MSt} {b : MM Fl} {fi : MM (List D)} {rel : Wd → V → D → Prop} (hp : PassesOwn (model X.prog X.w) X.A X.env X.xe) (hc : X.calm = true) (hi : PI X tg iter (mI X.K T c W rel fi)) (hg : PG X tg (mG X.K T c rel vs g)) (hb : PSs X body (mS X.K T c W b))
    (hs : ∀ x, foldedSetIterable iter X.env x = pure x := by intro _; rfl) : PS X (.For tg iter body [] pos) (mS X.K T c W (MM.bind fi (forD g b))) := by
  refine ps_mono (ps_for hp hc hi hg hb hs) fun Dn σ H ⟨G, ρ, j, p⟩ => ?_
  refine pS_bind j p fun xs Jt ρ1 G1 H1 l1 j1 r1 p1 => ?_
  refine ⟨fun i m σ H => m = xs.length - i ∧ i ≤ xs.length ∧ ∃ G ρ, Le G1 G ∧ J X.K T c G H σ ρ ∧ pS X.K T c W Dn G (forD g b (xs.drop i) ρ), ⟨xs.length, by simp, Nat.zero_le _, G1, ρ1, Le.refl G1, j1, by simpa using p1⟩, ?_⟩
  rintro i m σ2 H2 ⟨rfl, hi, G2, ρ2, l2, j2, p2⟩
  by_cases hlt : i < xs.length
  · refine .inr ⟨r1.go i G2 H2 l2 j2.sub j2.frm hlt, fun σ' H' => ∃ G ρ, Le G1 G ∧ J X.K T c G H' σ' ρ ∧ pS X.K T c W Dn G (forD g b (xs.drop (i + 1)) ρ), fun σ' H' q => ⟨xs.length - (i + 1), by omega, rfl, hlt, q⟩, fun x H3 y => ?_⟩
    obtain ⟨d, hd, q⟩ := r1.yld i G2 H2 x H3 l2 j2.sub j2.frm hlt y
    obtain ⟨G3, l3, j3, dq⟩ : ∃ G3, Le G2 G3 ∧ J X.K T c G3 H3 σ2 ρ2 ∧ rel G3 x d := by
      rcases q with ⟨rfl, dq⟩ | ⟨p, o, hn, nt, rfl, dq⟩
      · exact ⟨G2, Le.refl _, j2, dq⟩
      · exact ⟨_, Le.upd (j2.fresh hn), j2.grow hn nt, dq⟩
    rw [drop_cons hd] at p2
    refine ⟨G3, ρ2, d, j3, dq, ?_⟩
    unfold forD at p2
    cases e : g d ρ2 with
    | none => rw [e] at p2; exact p2.elim
    | some ρ3 =>
      rw [e] at p2
      intro σ' G4 H4 _ l4 j4
      refine ⟨G4, ρ3, j4, ?_⟩
      have l : Le G1 G4 := (l2.trans l3).trans l4
      have p3 := pS.le (l3.trans l4) p2
      cases e2 : b ρ3 with
      | ok a ρ4 =>
        simp only [e2] at p3
        cases a with
        | nx => exact fun σ5 G5 H5 l5 j5 => ⟨G5, ρ4, l.trans l5, j5, pS.le l5 p3⟩
        | ct => exact fun σ5 G5 H5 l5 j5 => ⟨G5, ρ4, l.trans l5, j5, pS.le l5 p3⟩
        | bk => exact p3
        | rt d => exact p3
      | exn y ρ4 => simp only [e2] at p3; exact p3
      | stuck => simp only [e2] at p3; exact p3.elim
  · have e : i = xs.length := by omega
    subst e
    rw [List.drop_length] at p2
    exact .inl ⟨r1.stop G2 H2 l2 j2.sub j2.frm, p2 σ2 G2 H2 (Le.refl G2) j2⟩
def whileD (t : MM Bool) (b : MM Fl) : Nat → MM Fl
  | 0 => stuck
  | n + 1 => MM.bind t fun k => if k = true then (fun ρ => match b ρ with
      | .ok .nx ρ2 => whileD t b n ρ2
      | .ok .ct ρ2 => whileD t b n ρ2
      | .ok .bk ρ2 => .ok .nx ρ2
      | .ok (.rt d) ρ2 => .ok (.rt d) ρ2
      | .exn y ρ2 => .exn y ρ2
      | .stuck => .stuck) else MM.pure .nx
theorem ms_while {t : Expr} {body : List Stmt} {g : MM Bool} {b : MM Fl} (n : MSt → Nat) (hp : PassesOwn (model X.prog X.w) X.A X.env X.xe) (ht : PT X t (mT X.K T c W g)) (hb : PSs X body (mS X.K T c W b)) :
    PS X (.While t body [] pos) (mS X.K T c W (fun ρ => whileD g b (n ρ) ρ)) := by
  refine ps_mono (ps_while hp ht hb) fun Dn σ H ⟨G, ρ, j, p⟩ => ?_
  refine ⟨fun m σ H => ∃ G ρ, J X.K T c G H σ ρ ∧ pS X.K T c W Dn G (whileD g b m ρ), ⟨n ρ, G, ρ, j, p⟩, ?_⟩
  rintro m σ2 H2 ⟨G2, ρ2, j2, p2⟩
  cases m with
  | zero => exact p2.elim
  | succ m =>
    refine pS_bind j2 p2 fun k k' ρ3 G3 H3 l3 j3 r3 p3 => ?_
    cases r3
    cases k with
    | false => exact p3 σ2 G3 H3 (Le.refl G3) j3
    | true =>
      refine ⟨fun σ' H' => ∃ G ρ, J X.K T c G H' σ' ρ ∧ pS X.K T c W Dn G (whileD g b m ρ), fun σ' H' q => ⟨m, Nat.lt_succ_self m, q⟩, G3, ρ3, j3, ?_⟩
      simp only [if_true] at p3
      cases e2 : b ρ3 with
      | ok a ρ4 =>
        simp only [e2] at p3
        cases a with
        | nx => exact fun σ5 G5 H5 l5 j5 => ⟨G5, ρ4, j5, pS.le l5 p3⟩
        | ct => exact fun σ5 G5 H5 l5 j5 => ⟨G5, ρ4, j5, pS.le l5 p3⟩
        | bk => exact p3
        | rt d => exact p3
      | exn y ρ4 => simp only [e2] at p3; exact p3
      | stuck => simp only [e2] at p3; exact p3.elim
end
end Mi
set_option Elab.async false
set_option linter.all false
set_option maxRecDepth 100000
set_option maxHeartbeats 4000000
namespace Mi
open PySem L2
theorem pe_ex {X : Cx} {e : Expr} {t : Gh → TE} (h : ∀ c, PE X e (t c)) : PE X e (fun σ H Q => ∃ c, t c σ H Q) := ⟨fun pins s σ H Q I ⟨c, q⟩ => (h c).run pins s σ H Q I q⟩
theorem pts_ex {X : Cx} {e : List Expr} {t : Gh → TT} (h : ∀ c, PTs X e (t c)) : PTs X e (fun σ H Q => ∃ c, t c σ H Q) := ⟨fun pins s σ H Q I ⟨c, q⟩ => (h c).run pins s σ H Q I q⟩
theorem pg_ex {X : Cx} {e : Expr} {t : Gh → TG} (h : ∀ c, PG X e (t c)) : PG X e (fun v σ H Q => ∃ c, t c v σ H Q) := ⟨fun pins s σ H v u Q I r ⟨c, q⟩ => (h c).run pins s σ H v u Q I r q⟩
theorem mts_nil {X : Cx} {T : Tb} {c : Gh} {W : WX} : PTs X [] (mT X.K T c W (MM.pure true)) := ⟨fun pins s σ H Q I ⟨G, ρ, j, p⟩ => pts_nil.run pins s σ H Q I (p.here j rfl)⟩
theorem mts_one {X : Cx} {T : Tb} {c : Gh} {W : WX} {e : Expr} {t : MM Bool} (h : PT X e (mT X.K T c W t)) : PTs X [e] (mT X.K T c W t) := pts_one h
theorem wipe_in {σ : St} {i : Nat} : ∀ {vs : List Nat}, i ∈ vs → i < σ.length → (wipe σ vs)[i]? = some none
  | [], h, _ => by cases h
  | v :: vs, h, hi => by
    show ((wipe σ vs).set v none)[i]? = some none
    by_cases z : i = v
    · subst z; rw [List.getElem?_set_self (by rw [wipe_length]; exact hi)]
    · rw [List.getElem?_set_ne (Ne.symm z)]
      exact wipe_in ((List.mem_cons.mp h).resolve_left z) hi
theorem wipe_wipe (σ : St) (vs : List Nat) : wipe (wipe σ vs) vs = wipe σ vs := by
  apply List.ext_getElem?
  intro i
  by_cases h : i ∈ vs
  · by_cases hi : i < σ.length
    · rw [wipe_in h (by rw [wipe_length]; exact hi), wipe_in h hi]
    · rw [List.getElem?_eq_none (by rw [wipe_length, wipe_length]; omega), List.getElem?_eq_none (by rw [wipe_length]; omega)]
  · rw [wipe_out h]
theorem wipeM_out {ρ : MSt} {i : Nat} : ∀ {vs : List Nat}, i ∉ vs → (wipeM ρ vs)[i]? = ρ[i]?
  | [], _ => rfl
  | v :: vs, h => by
    show ((wipeM ρ vs).set v none)[i]? = ρ[i]?
    rw [List.getElem?_set_ne (fun z => h (by rw [z]; exact List.mem_cons_self))]
    exact wipeM_out fun z => h (List.mem_cons_of_mem _ z)
def keepd : Option (Option S) → Option S
  | some (some (.d x)) => some (.d x)
  | _ => none
def restore (os : List Nat) (ρ ρ' : MSt) : MSt := (List.range ρ.length).map fun (i : Nat) => if i ∈ os then keepd ρ[i]? else (ρ'[i]?).getD none
theorem restore_at {os : List Nat} {ρ ρ' : MSt} {i : Nat} {s : S} (h : (restore os ρ ρ')[i]? = some (some s)) : (i ∈ os ∧ ∃ x, s = .d x ∧ ρ[i]? = some (some (.d x))) ∨ (i ∉ os ∧ ρ'[i]? = some (some s)) := by
  unfold restore at h
  rw [List.getElem?_map] at h
  cases e : (List.range ρ.length)[i]? with
  | none => rw [e] at h; cases h
  | some k =>
    rw [e] at h
    have hk : k = i := by
      obtain ⟨h1, h2⟩ := List.getElem?_eq_some_iff.mp e
      rw [← h2]; simp
    subst hk
    simp only [Option.map_some, Option.some.injEq] at h
    by_cases z : k ∈ os
    · rw [if_pos z] at h
      unfold keepd at h
      split at h
      · rename_i x hx
        cases h
        exact .inl ⟨z, x, rfl, hx⟩
      · cases h
    · rw [if_neg z] at h
      refine .inr ⟨z, ?_⟩
      cases q : ρ'[k]? with
      | none => rw [q] at h; cases h
      | some o => rw [q] at h; simp only [Option.getD_some] at h; rw [h]
theorem J.restore {K : Fg} {T : Tb} {c : Gh} {G G1 : Wd} {H H1 : Hp} {σ : St} {ρ1 ρe : MSt} {os : List Nat} (j1 : J K T c G1 H1 σ ρ1) (l : Le G1 G) (j : J K T c G H (L2.wipe σ os) (wipeM ρe os)) : J K T c G H σ (Mi.restore os ρ1 ρe) := by
  refine j.refit (by unfold Mi.restore; rw [List.length_map, List.length_range]; exact j1.len) (by rw [wipe_length]) fun i s e => ?_
  rcases restore_at e with ⟨z, x, rfl, q⟩ | ⟨z, q⟩
  · obtain ⟨v, h1, h2⟩ := j1.sl i _ q
    exact .inr ⟨x, v, rfl, h1, Dq.le h2 l⟩
  · exact .inl ⟨by rw [wipeM_out z]; exact q, wipe_out z⟩
def W0 : WX := fun _ _ _ _ => False
def compD (os : List Nat) (g : D → MSt → Option MSt) (t : MM Bool) (e : MM D) : List D → List D → MM (List D)
  | [], acc => MM.pure acc
  | x :: xs, acc => fun ρ => match g x (wipeM ρ os) with
    | none => .stuck
    | some ρ1 => match t ρ1 with
      | .ok true ρ2 => match e ρ2 with
        | .ok y ρ3 => if acc.length < sizeLine then compD os g t e xs (acc ++ [y]) ρ3 else .stuck
        | _ => .stuck
      | .ok false ρ2 => compD os g t e xs acc ρ2
      | _ => .stuck
def compL (os : List Nat) (g : D → MSt → Option MSt) (t : MM Bool) (e : MM D) (xs : List D) : MM D := fun ρ => match compD os g t e xs [] ρ with
  | .ok ys ρe => .ok (.list ys) (restore os ρ ρe)
  | _ => .stuck
theorem upd_here {H : Hp} {a b : Addr} {o u : HO} (h : H a = some u) (n : H b = none) : upd H b o a = some u := by rw [upd_ne (ne_of_none h n)]; exact h
section
variable {X : Cx} {T : Tb} {c : Gh} {W : WX} {elt tg iter : Expr} {ifs : List Expr} {scope : Scope} {own : List (Str × Nat)} {pos spos : Pos} {fi : MM (List D)} {rel : Wd → V → D → Prop} {g : D → MSt → Option MSt} {t : MM Bool} {e : MM D} {os : List Nat}
abbrev xG (K : Fg) (T : Tb) (rel : Wd → V → D → Prop) (os : List Nat) (g : D → MSt → Option MSt) : TG := fun v σ H Q => ∃ c, mG K T c rel os g v σ H Q
abbrev xT (K : Fg) (T : Tb) (t : MM Bool) : TT := fun σ H Q => ∃ c, mT K T c W0 t σ H Q
abbrev xE (K : Fg) (T : Tb) (e : MM D) : TE := fun σ H Q => ∃ c, mE K T c W0 e σ H Q
theorem lc_to (σ : St) (H : Hp) (Q : VK) (h : mE X.K T c W (MM.bind fi (compL os g t e)) σ H Q) : tLc (mI X.K T c W rel fi) (xG X.K T rel os g) (xT X.K T t) (xE X.K T e) os σ H Q := by
  obtain ⟨G, ρ, j, p⟩ := h
  refine pX_bind j p fun xs Jt ρ1 G1 H1 l1 j1 r1 p1 => ?_
  intro D hD1
  have h0 : c.H0 D = none ∨ D ∈ c.M := j1.H0none hD1
  have pc0 : (match compD os g t e xs [] ρ1 with | .ok ys ρe => ∀ v G' H', Le G1 G' → J X.K T c G' H' σ (restore os ρ1 ρe) → Dq X.K G' v (.list ys) → Q v H' | _ => False) := by
    unfold compL at p1
    cases q : compD os g t e xs [] ρ1 with
    | ok ys ρe => rw [q] at p1; exact p1
    | exn y ρe => rw [q] at p1; exact p1.elim
    | stuck => rw [q] at p1; exact p1.elim
  refine ⟨fun i m H => m = xs.length - i ∧ i ≤ xs.length ∧ ∃ G ρb vs acc, Le G1 G ∧ J X.K T c G H (wipe σ os) (wipeM ρb os) ∧ H D = some (.lst vs) ∧ G D = none ∧ DqAll X.K G vs acc ∧ (D ∉ owns (wipe σ os) (wipeM ρb os) ∧ D ∉ G.m) ∧
      (match compD os g t e (xs.drop i) acc ρb with | .ok ys ρe => ∀ v G' H', Le G1 G' → J X.K T c G' H' σ (restore os ρ1 ρe) → Dq X.K G' v (.list ys) → Q v H' | _ => False),
    ⟨xs.length, by simp, Nat.zero_le _, G1, ρ1, [], [], Le.refl G1, (j1.wipe os).aside hD1, upd_same, j1.fresh hD1, .nil, ⟨(j1.wipe os).notOwn hD1, j1.freshM hD1⟩, by simpa using pc0⟩, ?_⟩
  rintro i m H2 ⟨rfl, hi, G2, ρb, vs, acc, l2, j2, hD, hGD, dqa, no, pc⟩
  by_cases hlt : i < xs.length
  · refine .inr ⟨r1.go i G2 H2 l2 j2.sub j2.frm hlt, fun H => ∃ G ρb vs acc, Le G1 G ∧ J X.K T c G H (wipe σ os) (wipeM ρb os) ∧ H D = some (.lst vs) ∧ G D = none ∧ DqAll X.K G vs acc ∧ (D ∉ owns (wipe σ os) (wipeM ρb os) ∧ D ∉ G.m) ∧
        (match compD os g t e (xs.drop (i + 1)) acc ρb with | .ok ys ρe => ∀ v G' H', Le G1 G' → J X.K T c G' H' σ (restore os ρ1 ρe) → Dq X.K G' v (.list ys) → Q v H' | _ => False),
      fun H' q => ⟨xs.length - (i + 1), by omega, rfl, hlt, q⟩, fun x H3 y => ?_⟩
    obtain ⟨d, hd, q⟩ := r1.yld i G2 H2 x H3 l2 j2.sub j2.frm hlt y
    obtain ⟨G3, l3, j3, dq, hD3, hGD3, nm3⟩ : ∃ G3, Le G2 G3 ∧ J X.K T c G3 H3 (wipe σ os) (wipeM ρb os) ∧ rel G3 x d ∧ H3 D = some (.lst vs) ∧ G3 D = none ∧ D ∉ G3.m := by
      rcases q with ⟨rfl, dq⟩ | ⟨p, o, hn, nt, rfl, dq⟩
      · exact ⟨G2, Le.refl _, j2, dq, hD, hGD, no.2⟩
      · exact ⟨_, Le.upd (j2.fresh hn), j2.grow hn nt, dq, upd_here hD hn, by show upd G2.hp p o D = none; rw [upd_ne (ne_of_none hD hn)]; exact hGD, no.2⟩
    rw [drop_cons hd] at pc
    unfold compD at pc
    cases eg : g d (wipeM ρb os) with
    | none => simp only [eg] at pc
    | some ρ2 =>
      simp only [eg] at pc
      refine ⟨here c G3 H3 (wipe σ os) (wipeM ρb os), G3, wipeM ρb os, d, j3.here, dq, ?_⟩
      rw [eg]
      intro σ' G4 H4 hw l4 j4
      have hw' : wipe σ' os = wipe σ os := by rw [hw, wipe_wipe]
      refine ⟨hw', here c G3 H3 (wipe σ os) (wipeM ρb os), G4, ρ2, j4, ?_⟩
      have fin : ∀ {G5 : Wd} {H5 : Hp} {ρ5 : MSt}, J X.K T (here c G3 H3 (wipe σ os) (wipeM ρb os)) G5 H5 σ' ρ5 → J X.K T c G5 H5 (wipe σ os) (wipeM ρ5 os) ∧ H5 D = some (.lst vs) ∧ G5 D = none ∧ D ∉ owns (wipe σ os) (wipeM ρ5 os) ∧ D ∉ G5.m := fun {G5 H5 ρ5} j5 => by
        have jw := j5.wipe os
        rw [hw'] at jw
        have nh := not_here (c := c) (H := H3) (G := G3) (σ := wipe σ os) (ρ := wipeM ρb os) ⟨no.1, nm3⟩
        have h3 : (here c G3 H3 (wipe σ os) (wipeM ρb os)).H0 D ≠ none := by show H3 D ≠ none; rw [hD3]; exact fun z => by cases z
        exact ⟨j3.back jw, j5.fr D _ hD3 nh (fun _ z => by cases z), j5.gn D hGD3 h3 nh, jw.apart h3 nh nm3⟩
      cases et : t ρ2 with
      | ok b ρ3 =>
        simp only [et] at pc
        intro b' G5 H5 l5 j5 rb
        cases rb
        cases b with
        | true =>
          rw [if_pos rfl]
          refine ⟨here c G3 H3 (wipe σ os) (wipeM ρb os), G5, ρ3, j5, ?_⟩
          cases ee : e ρ3 with
          | ok y ρ4 =>
            simp only [ee] at pc
            intro v G6 H6 l6 j6 dv
            obtain ⟨f1, f2, f3, f4⟩ := fin j6
            by_cases hz : acc.length < sizeLine
            · rw [if_pos hz] at pc
              have l : Le G2 G6 := ((l3.trans l4).trans l5).trans l6
              refine ⟨vs, f2, by rw [dqa.length]; exact hz, G6, ρ4, vs ++ [v], acc ++ [y], l2.trans l, f1.write f3 f2 (fun _ z => by cases z) (fun _ _ z => by unfold LamX.CodeO at z; cases z) h0 f4.1 f4.2, upd_same, f3, (dqa.le l).app (.one dv), f4, pc⟩
            · rw [if_neg hz] at pc
              exact pc.elim
          | exn y ρ4 => simp only [ee] at pc
          | stuck => simp only [ee] at pc
        | false =>
          rw [if_neg Bool.false_ne_true]
          obtain ⟨f1, f2, f3, f4⟩ := fin j5
          have l : Le G2 G5 := (l3.trans l4).trans l5
          exact ⟨G5, ρ3, vs, acc, l2.trans l, f1, f2, f3, dqa.le l, f4, pc⟩
      | exn y ρ3 => simp only [et] at pc
      | stuck => simp only [et] at pc
  · have ei : i = xs.length := by omega
    subst ei
    rw [List.drop_length] at pc
    refine .inl ⟨r1.stop G2 H2 l2 j2.sub j2.frm, ?_⟩
    have js := j2.still hGD hD h0 no.1 no.2
    have l : Le G1 (wupd G2 D (.lst vs)) := l2.trans (Le.upd hGD)
    exact pc (.ref D) _ H2 l (j1.restore l js) (.lst (.inl upd_same) (dqa.le (Le.upd hGD)))
theorem me_lc (hc : X.calm = true) (hN : X.N.Nodup) (hi : PI X tg iter (mI X.K T c W rel fi)) (ok : BlkOk X.N X.env.scope scope own) (ho : own.map (·.2) = os)
    (hg : ∀ (c : Gh) (s : Shared) (H : Hp) (C : Addr) (cl : List (Str × Addr)) (fp : List Addr), PG (X.blk s H scope (compEnvC scope cl C X.env) fp) tg (mG X.K T c rel os g)) (ht : ∀ (c : Gh) (s : Shared) (H : Hp) (C : Addr) (cl : List (Str × Addr)) (fp : List Addr), PTs (X.blk s H scope (compEnvC scope cl C X.env) fp) ifs (mT X.K T c W0 t))
    (he : ∀ (c : Gh) (s : Shared) (H : Hp) (C : Addr) (cl : List (Str × Addr)) (fp : List Addr), PE (X.blk s H scope (compEnvC scope cl C X.env) fp) elt (mE X.K T c W0 e)) (hs : ∀ x, foldedSetIterable iter X.env x = pure x := by intro _; rfl) :
    PE X (.ListComp elt [⟨tg, iter, ifs, 0⟩] scope pos) (mE X.K T c W (MM.bind fi (compL os g t e))) := by
  subst ho
  exact pe_mono (pe_lc hc hN hi ok (fun s H C cl fp => pg_ex fun c => hg c s H C cl fp) (fun s H C cl fp => pts_ex fun c => ht c s H C cl fp) (fun s H C cl fp => pe_ex fun c => he c s H C cl fp) hs) lc_to
end
end Mi
set_option Elab.async false
set_option linter.all false
set_option maxRecDepth 100000
set_option maxHeartbeats 4000000
namespace Mi
open PySem L2
section
variable {X : Cx} {T : Tb} {c : Gh} {W : WX} {a b e : Expr} {f f1 f2 : MM D} {pos : Pos}
/-- an operator by a rule for each kind -/
theorem Op2.mk {f : Value → Value → Sem Value} {g : D → D → Res D} {r : R2} (h : OpR X f r)
    (k : ∀ G H x y d e q (Q : VK), Lh G H → Dq X.K G x d → Dq X.K G y e → g d e = .ok q → ((∀ v, Dq X.K G v q → Q v H) ∧ ∀ p o, H p = none → (∀ ps, o ≠ .tbl ps) → Dq X.K (wupd G p o) (.ref p) q → Q (.ref p) (upd H p o)) → r x y H Q)
    (nx : ∀ d e y, g d e ≠ .exn y) : Op2 X T c W f g := by
  refine ⟨r, h, fun σ ρ G H x y d e Q j dx dy p => ?_⟩
  cases q : g d e with
  | ok z =>
    rw [q] at p
    refine k G H x y d e z Q j.sub dx dy q ⟨fun v dv => p.here j dv, fun p' o hn nt dv => ?_⟩
    exact p _ _ _ (Le.upd (j.fresh hn)) (j.grow hn nt) dv
  | exn y => exact absurd q (nx d e y)
  | stuck => rw [q] at p; exact p.elim
def intOp (g : Int → Int → Res D) : D → D → Res D
  | .int i, .int j => g i j
  | _, _ => .stuck
def dSub : D → D → Res D := intOp fun i j => .ok (.int (i - j))
def dLe : D → D → Res D := intOp fun i j => .ok (.bool (decide (i ≤ j)))
def dGt : D → D → Res D := intOp fun i j => .ok (.bool (decide (j < i)))
def dGe : D → D → Res D := intOp fun i j => .ok (.bool (decide (j ≤ i)))
def dFdiv : D → D → Res D := intOp fun i j => if 0 < j ∧ j.natAbs.log2 < 9000 then .ok (.int (i / j)) else .stuck
def dMod : D → D → Res D := intOp fun i j => if 0 < j then .ok (.int (i % j)) else .stuck
theorem o_sub : Op2 X T c W (binaryOp .Sub) dSub := Op2.mk op_sub (fun G H x y d e q Q l dx dy hq k => by
  cases dx <;> cases dy <;> first | (cases hq; exact ⟨_, _, rfl, rfl, k.1 _ (.int _)⟩) | (exact nomatch hq)) fun d e y z => by cases d <;> cases e <;> exact nomatch z
theorem o_le : Op2 X T c W (compareOp .LtE) dLe := Op2.mk op_le (fun G H x y d e q Q l dx dy hq k => by
  cases dx <;> cases dy <;> first | (cases hq; exact ⟨_, _, rfl, rfl, k.1 _ (.bl _)⟩) | (exact nomatch hq)) fun d e y z => by cases d <;> cases e <;> exact nomatch z
theorem o_gt : Op2 X T c W (compareOp .Gt) dGt := Op2.mk op_gt (fun G H x y d e q Q l dx dy hq k => by
  cases dx <;> cases dy <;> first | (cases hq; exact ⟨_, _, rfl, rfl, k.1 _ (.bl _)⟩) | (exact nomatch hq)) fun d e y z => by cases d <;> cases e <;> exact nomatch z
theorem o_ge : Op2 X T c W (compareOp .GtE) dGe := Op2.mk op_ge (fun G H x y d e q Q l dx dy hq k => by
  cases dx <;> cases dy <;> first | (cases hq; exact ⟨_, _, rfl, rfl, k.1 _ (.bl _)⟩) | (exact nomatch hq)) fun d e y z => by cases d <;> cases e <;> exact nomatch z
theorem ite_res {α : Type} {P : Prop} [Decidable P] {u v : α} (h : (if P then Res.ok u else .stuck) = .ok v) : P ∧ u = v := by
  by_cases p : P
  · rw [if_pos p] at h; cases h; exact ⟨p, rfl⟩
  · rw [if_neg p] at h; cases h
theorem ite_nx {α : Type} {P : Prop} [Decidable P] {u : α} {y : Exn} (h : (if P then Res.ok u else .stuck) = .exn y) : False := by
  by_cases p : P
  · rw [if_pos p] at h; cases h
  · rw [if_neg p] at h; cases h
theorem o_fdiv : Op2 X T c W (binaryOp .FloorDiv) dFdiv := Op2.mk op_fdivW (fun G H x y d e q Q l dx dy hq k => by
  cases dx with
  | int i =>
    cases dy with
    | int j => obtain ⟨p, rfl⟩ := ite_res hq; exact ⟨_, _, rfl, rfl, p, k.1 _ (.int _)⟩
    | _ => exact nomatch hq
  | _ => cases dy <;> exact nomatch hq) fun d e y z => by cases d <;> cases e <;> first | (exact ite_nx z) | (exact nomatch z)
theorem o_mod : Op2 X T c W (binaryOp .Mod) dMod := Op2.mk op_mod (fun G H x y d e q Q l dx dy hq k => by
  cases dx with
  | int i =>
    cases dy with
    | int j => obtain ⟨p, rfl⟩ := ite_res hq; exact ⟨_, _, rfl, rfl, p, k.1 _ (.int _)⟩
    | _ => exact nomatch hq
  | _ => cases dy <;> exact nomatch hq) fun d e y z => by cases d <;> cases e <;> first | (exact ite_nx z) | (exact nomatch z)
/-- < of ints, of texts -/
def dLt : D → D → Res D
  | .int i, .int j => .ok (.bool (decide (i < j)))
  | .str i, .str j => .ok (.bool (decide (i.cps.toList < j.cps.toList)))
  | _, _ => .stuck
theorem o_lt : Op2 X T c W (compareOp .Lt) dLt := Op2.mk (op_lt.or op_lt_str) (fun G H x y d e q Q l dx dy hq k => by
  cases dx <;> cases dy <;> first | (cases hq; exact .inl ⟨_, _, rfl, rfl, k.1 _ (.bl _)⟩) | (cases hq; exact .inr ⟨_, _, rfl, rfl, k.1 _ (.bl _)⟩) | (exact nomatch hq)) fun d e y z => by cases d <;> cases e <;> exact nomatch z
theorem inv_lst {pins : List (Addr × Obj)} {s : Shared} {σ : St} {H : Hp} {l : Addr} {xs : List V} (I : Inv X pins σ H s) (h : Rd H l (.lst xs)) : xs.length ≤ sizeLine ∧ ∃ (its : List Value) (n : Nat), Vals xs its ∧ xs.length = its.length ∧ s.heap.get? l = some { cls := .type "list", data := .seq its.toArray n } := by
  obtain ⟨z, its, n, r, e⟩ := h.ok I.hok
  exact ⟨z, its, n, r, r.length, e⟩
def rCatL : R2 := fun x y H Q => ∃ l b xs zs, x = .ref l ∧ y = .ref b ∧ Rd H l (.lst xs) ∧ Rd H b (.lst zs) ∧ xs.length + zs.length ≤ sizeLine ∧ ∀ p, H p = none → Q (.ref p) (upd H p (.lst (xs ++ zs)))
theorem op_catL : OpR X (binaryOp .Add) rCatL := by
  intro pins s σ H x y v u Q I rx ry h
  obtain ⟨l, b, xs, zs, rfl, rfl, hH, hB, hz, q⟩ := h
  cases rx
  cases ry
  obtain ⟨z, its, n, r, hl, e⟩ := inv_lst I hH
  obtain ⟨z2, its2, n2, r2, hl2, e2⟩ := inv_lst I hB
  refine PySem.P.add_list e e2 ?_ (by rw [List.size_toArray, List.size_toArray]; omega)
  have ea : its.toArray ++ its2.toArray = (its ++ its2).toArray := by simp
  rw [ea]
  exact ⟨.ref _, _, I.lnew (t' := s.toks) (r.append r2) (by rw [List.length_append]; omega), rfl, q _ I.fresh⟩
def rRepL : R2 := fun x y H Q => ∃ l k xs, x = .ref l ∧ y = .int k ∧ Rd H l (.lst xs) ∧ -(2 ^ 63) ≤ k ∧ k < 2 ^ 63 ∧ xs.length * k.toNat ≤ sizeLine ∧
  ∀ p, H p = none → Q (.ref p) (upd H p (.lst (List.replicate k.toNat xs).flatten))
theorem op_repL : OpR X (binaryOp .Mult) rRepL := by
  intro pins s σ H x y v u Q I rx ry h
  obtain ⟨l, k, xs, rfl, rfl, hH, h1, h2, hz, q⟩ := h
  cases rx
  obtain ⟨t, rfl⟩ := ry
  obtain ⟨z, its, n, r, hl, e⟩ := inv_lst I hH
  have hlen : its.toArray.size * k.toNat ≤ sizeLine := by rw [List.size_toArray, ← hl]; exact hz
  have hcap : ¬ its.toArray.size * k.toNat > (2 ^ 63 - 1) / 8 := by
    have : (sizeLine : Nat) ≤ (2 ^ 63 - 1) / 8 := by decide
    omega
  have hfit : ¬ (!Builtin.List.listFitsIndex k) = true := by
    rw [fitsIndex_both h1 h2]
    exact Bool.false_ne_true
  have hlong : ¬ Builtin.List.listTooLong (its.toArray.size * k.toNat) = true := by
    rw [notLongL hlen]
    exact Bool.false_ne_true
  have hnew : List.foldl (fun x1 x2 => x1 ++ x2) #[] (List.replicate (if its.toArray.isEmpty = true then 0 else k.toNat) its.toArray) = (List.replicate k.toNat its).flatten.toArray := by
    have f0 : ∀ m : Nat, List.foldl (fun x1 x2 => x1 ++ x2) #[] (List.replicate m its.toArray) = (List.replicate m its).flatten.toArray := fun m => by
      have := foldl_rep its m []
      rw [List.nil_append] at this
      exact this
    rw [f0]
    cases its with
    | nil => simp
    | cons a r' => rw [if_neg (by simp)]
  refine wpAny_binaryOp_repeat_ref (T := "list") (U := "int") (by decide) ⟨_, e, rfl⟩ (fun s' => typeIs_int s' k t) noFill_list_mul F.fills_int_mul F.slot_int_rmul repeat_list F.slot_int_index.lookup
    (call_meets F.slot_int_rmul (typeIs_int s k t) F.entry_int_rmul (F.args_int_rmul_2 _ _) (int___rmul___int_list k t l its.toArray n)
      ⟨e, rfl, ⟨_, e, rfl⟩, call_meets F.slot_list_mul ⟨_, e, rfl⟩ F.entry_list_mul (F.args_list_mul_2 _ _) (AutoListH.list___mul___list_int_3 l its.toArray n k t hfit hcap hlong) ⟨e, ?_⟩⟩)
  rw [hnew]
  exact ⟨.ref _, _, I.lnew (t' := s.toks) (r.rep k.toNat) (by rw [PyProof.Rows.lm_len_rep_flat, Nat.mul_comm]; exact hz), rfl, q _ I.fresh⟩
/-- t + u; a new tuple's object is told -/
def rCatF (K : Fg) : R2 := fun x y H Q => ∃ a b xs ys, x = .ref a ∧ y = .ref b ∧ SqT K H a xs ∧ SqT K H b ys ∧ xs.length + ys.length ≤ sizeLine ∧
  (xs = [] → Q (.ref b) H) ∧ (xs ≠ [] → ys = [] → Q (.ref a) H) ∧ (xs ≠ [] → ys ≠ [] → ∀ p o, H p = none → o.dict = none → Q (.ref p) (upd H p (.frz o (.tup (xs ++ ys)))))
theorem op_catF : OpR X (binaryOp .Add) (rCatF X.K) := by
  intro pins s σ H x y v u Q I rx ry h
  obtain ⟨a, b, xs, ys, rfl, rfl, ha, hb, hz, q0, q1, q2⟩ := h
  cases rx
  cases ry
  obtain ⟨its, r1, p1, _⟩ := I.tuple ha
  obtain ⟨its2, r2, p2, _⟩ := I.tuple hb
  by_cases hx : xs = []
  · subst hx
    cases r1
    exact cat_tup0 p1 p2 ⟨.ref b, H, I, rfl, q0 rfl⟩
  · refine HT.cat_tup p1 p2 (fun z => hx (r1.nil_iff.mp z)) (fun z => ⟨.ref a, H, I, rfl, q1 hx (r2.nil_iff.mp z)⟩) (fun z => ?_) (by rw [← r1.length, ← r2.length]; exact hz)
    exact laidT (t' := s.toks) I (r1.append r2) (by rw [List.length_append]; exact hz) (q2 hx (fun w => z (r2.nil_iff.mpr w)))
/-- + -/
def dAdd : D → D → Res D
  | .int i, .int j => .ok (.int (i + j))
  | .str i, .str j => if i.length + j.length ≤ sizeLine then .ok (.str (i ++ j)) else .stuck
  | .list xs, .list ys => if xs.length + ys.length ≤ sizeLine then .ok (.list (xs ++ ys)) else .stuck
  | .tuple xs, .tuple ys => if xs.length + ys.length ≤ sizeLine then .ok (.tuple (xs ++ ys)) else .stuck
  | _, _ => .stuck
theorem o_add : Op2 X T c W (binaryOp .Add) dAdd := Op2.mk (op_add.or (op_add_str.or (op_catL.or op_catF))) (fun G H x y d e q Q l dx dy hq k => by
  cases dx with
  | int i => cases dy <;> first | (cases hq; exact .inl ⟨_, _, rfl, rfl, k.1 _ (.int _)⟩) | (exact nomatch hq)
  | str i => cases dy <;> first | (obtain ⟨p, rfl⟩ := ite_res hq; exact .inr (.inl ⟨_, _, rfl, rfl, p, k.1 _ (.str _)⟩)) | (exact nomatch hq)
  | lst h1 h2 =>
    cases dy with
    | lst h3 h4 =>
      obtain ⟨p, rfl⟩ := ite_res hq
      refine .inr (.inr (.inl ⟨_, _, _, _, rfl, rfl, l.sub.rd _ _ (fun _ _ z => by cases z) h1, l.sub.rd _ _ (fun _ _ z => by cases z) h3, by rw [h2.length, h4.length]; exact p, fun p hp => k.2 p _ hp (by intro _ z; cases z) ?_⟩))
      have hG : G p = none := by
        cases z : G p with
        | none => rfl
        | some o => have := l p o z; rw [hp] at this; cases this
      exact .lst (.inl upd_same) ((h2.app h4).le (Le.upd hG))
    | _ => exact nomatch hq
  | tup h1 h2 =>
    cases dy with
    | tup h3 h4 =>
      obtain ⟨p, rfl⟩ := ite_res hq
      refine .inr (.inr (.inr ⟨_, _, _, _, rfl, rfl, sqT_sub h1.sq l.sub, sqT_sub h3.sq l.sub, by rw [h2.length, h4.length]; exact p, fun e => ?_, fun _ e => ?_, fun _ _ p o hp ho => k.2 p _ hp (by intro _ z; cases z) ?_⟩))
      · subst e
        cases h2
        exact k.1 _ (.tup h3 h4)
      · subst e
        cases h4
        rw [List.append_nil] at k
        exact k.1 _ (.tup h1 h2)
      · have hG : G p = none := by
          cases z : G p with
          | none => rfl
          | some o => have := l p o z; rw [hp] at this; cases this
        exact .tup (.inl ⟨o, upd_same, ho⟩) ((h2.app h4).le (Le.upd hG))
    | _ => exact nomatch hq
  | _ => cases dy <;> exact nomatch hq) fun d e y z => by cases d <;> cases e <;> first | (exact ite_nx z) | (exact nomatch z)
/-- * -/
def mulOk (i j : Int) : Bool := decide (-(2 ^ 64) < i) && decide (i < 2 ^ 64) || decide (-(2 ^ 64) < j) && decide (j < 2 ^ 64) || decide (i.natAbs.log2 + j.natAbs.log2 < 1000000)
def dMul : D → D → Res D
  | .int i, .int j => if mulOk i j = true then .ok (.int (i * j)) else .stuck
  | .list xs, .int k => if -(2 ^ 63) ≤ k ∧ k < 2 ^ 63 ∧ xs.length * k.toNat ≤ sizeLine then .ok (.list (List.replicate k.toNat xs).flatten) else .stuck
  | _, _ => .stuck
theorem DqAll.rep {K : Fg} {G : Wd} {vs : List V} {ds : List D} (h : DqAll K G vs ds) : ∀ n : Nat, DqAll K G (List.replicate n vs).flatten (List.replicate n ds).flatten
  | 0 => .nil
  | n + 1 => by
    rw [List.replicate_succ, List.replicate_succ, List.flatten_cons, List.flatten_cons]
    exact h.app (DqAll.rep h n)
theorem o_mul : Op2 X T c W (binaryOp .Mult) dMul := Op2.mk (op_mul.or (op_mulW.or op_repL)) (fun G H x y d e q Q l dx dy hq k => by
  cases dx with
  | int i =>
    cases dy with
    | int j =>
      obtain ⟨p, rfl⟩ := ite_res hq
      unfold mulOk at p
      simp only [Bool.or_eq_true, Bool.and_eq_true, decide_eq_true_eq] at p
      rcases p with p | p
      · exact .inl ⟨_, _, rfl, rfl, p, k.1 _ (.int _)⟩
      · exact .inr (.inl ⟨_, _, rfl, rfl, p, k.1 _ (.int _)⟩)
    | _ => exact nomatch hq
  | lst h1 h2 =>
    cases dy with
    | int j =>
      obtain ⟨⟨p1, p2, p3⟩, rfl⟩ := ite_res hq
      refine .inr (.inr ⟨_, _, _, rfl, rfl, l.sub.rd _ _ (fun _ _ z => by cases z) h1, p1, p2, by rw [h2.length]; exact p3, fun p hp => k.2 p _ hp (by intro _ z; cases z) ?_⟩)
      have hG : G p = none := by
        cases z : G p with
        | none => rfl
        | some o => have := l p o z; rw [hp] at this; cases this
      exact .lst (.inl upd_same) ((h2.rep _).le (Le.upd hG))
    | _ => exact nomatch hq
  | _ => cases dy <;> exact nomatch hq) fun d e y z => by cases d <;> cases e <;> first | (exact ite_nx z) | (exact nomatch z)
mutual
def noDict : D → Bool
  | .dict _ => false
  | .loc _ => false
  | .exc _ => false
  | .fn _ => false
  | .list xs => noDicts xs
  | .tuple xs => noDicts xs
  | _ => true
def noDicts : List D → Bool
  | [] => true
  | x :: xs => noDict x && noDicts xs
end
mutual
theorem dp_of {K : Fg} {G : Wd} : ∀ {v : V} {d : D}, Dq K G v d → noDict d = true → Dp K G v d.py
  | _, _, .non, _ => .non
  | _, _, .bl b, _ => .bl b
  | _, _, .int i, _ => .int i
  | _, _, .str x, _ => .str x
  | _, _, .lst h t, n => .lst (.inl h) (dpAll_of t n)
  | _, _, .tup h t, n => .tup h.sq (dpAll_of t n)
  | _, _, .dic h t, n => by cases n
  | _, _, .loc h, n => by cases n
theorem dpAll_of {K : Fg} {G : Wd} : ∀ {vs : List V} {ds : List D}, DqAll K G vs ds → noDicts ds = true → DpAll K G vs (pys ds)
  | _, _, .nil, _ => .nil
  | _, _, .cons h t, n => by
    obtain ⟨n1, n2⟩ := Bool.and_eq_true_iff.mp (show (noDict _ && noDicts _) = true from n)
    exact .cons (dp_of h n1) (dpAll_of t n2)
end
def eqOk (d : D) : Bool := noDict d && SeqAt.shaped d.py
def dEq (d e : D) : Res D := if eqOk d = true ∧ eqOk e = true then .ok (.bool (D.eqv d e)) else .stuck
def dNe (d e : D) : Res D := if eqOk d = true ∧ eqOk e = true then .ok (.bool (!D.eqv d e)) else .stuck
theorem o_eq (hu : X.A.units + 64 < cLine) : Op2 X T c W (compareOp .Eq) dEq := Op2.mk (op_eqD hu) (fun G H x y d e q Q l dx dy hq k => by
  obtain ⟨⟨p1, p2⟩, rfl⟩ := ite_res hq
  obtain ⟨n1, s1⟩ := Bool.and_eq_true_iff.mp p1
  obtain ⟨n2, s2⟩ := Bool.and_eq_true_iff.mp p2
  exact ⟨d.py, e.py, dp_of (dx.up l) n1, dp_of (dy.up l) n2, s1, s2, k.1 _ (.bl _)⟩) fun d e y z => ite_nx z
theorem o_ne (hu : X.A.units + 64 < cLine) : Op2 X T c W (compareOp .NotEq) dNe := Op2.mk (op_neD hu) (fun G H x y d e q Q l dx dy hq k => by
  obtain ⟨⟨p1, p2⟩, rfl⟩ := ite_res hq
  obtain ⟨n1, s1⟩ := Bool.and_eq_true_iff.mp p1
  obtain ⟨n2, s2⟩ := Bool.and_eq_true_iff.mp p2
  exact ⟨d.py, e.py, dp_of (dx.up l) n1, dp_of (dy.up l) n2, s1, s2, k.1 _ (.bl _)⟩) fun d e y z => ite_nx z
def isNone : D → Bool
  | .none => true
  | _ => false
def dIs : D → D → Res D
  | d, .none => .ok (.bool (isNone d))
  | .bool a, .bool b => .ok (.bool (decide (a = b)))
  | _, _ => .stuck
def dIsNot : D → D → Res D
  | d, .none => .ok (.bool (!isNone d))
  | .bool a, .bool b => .ok (.bool (!decide (a = b)))
  | _, _ => .stuck
def flatD : D → Bool
  | .none | .bool _ | .int _ | .str _ => true
  | _ => false
def inSeq (x : D) (xs : List D) : Bool := xs.any fun y => D.eqv y x
/-- the key that a datum is -/
def keyOf : D → Option Key
  | .int i => some (.inl i)
  | .str s => some (.inr s)
  | _ => none
def hasKey (k : D) (kvs : List (D × D)) : Bool := kvs.any fun p => D.eqv p.1 k
def valAt (kvs : List (D × D)) (k : D) : Option D := (kvs.find? fun p => D.eqv p.1 k).map (·.2)
theorem keyOf_keyD {d : D} {k : Key} (h : keyOf d = some k) : d = keyD k := by
  cases d <;> first | (cases h; rfl) | (exact nomatch h)
theorem eqv_key (k k' : Key) : D.eqv (keyD k) (keyD k') = decide (k = k') := by
  cases k with
  | inl i => cases k' with
    | inl j => show (i == j) = _; rw [key_ll]
    | inr j => show false = _; rw [key_lr]
  | inr i => cases k' with
    | inl j => show false = _; rw [key_rl]
    | inr j =>
      show (i == j) = _
      rw [key_rr, Bool.beq_eq_decide_eq]
theorem dqkv_val {K : Fg} {G : Wd} {k : Key} : ∀ {kvs : List (Key × V)} {ds : List (D × D)}, DqKV K G kvs ds → (valV kvs k = none ∧ valAt ds (keyD k) = none) ∨ ∃ v d, valV kvs k = some v ∧ valAt ds (keyD k) = some d ∧ Dq K G v d
  | _, _, .nil => .inl ⟨rfl, rfl⟩
  | _, _, .cons (k := k') (v := v) (d := d) h t => by
    by_cases z : k' = k
    · refine .inr ⟨v, d, valV_pos z, ?_, h⟩
      unfold valAt
      rw [List.find?_cons, eqv_key]
      simp [z]
    · rcases dqkv_val (k := k) t with ⟨h1, h2⟩ | ⟨v2, d2, h1, h2, h3⟩
      · refine .inl ⟨(valV_neg z).trans h1, ?_⟩
        unfold valAt at h2 ⊢
        rw [List.find?_cons, eqv_key]
        simp only [z, decide_false]
        exact h2
      · refine .inr ⟨v2, d2, (valV_neg z).trans h1, ?_, h3⟩
        unfold valAt at h2 ⊢
        rw [List.find?_cons, eqv_key]
        simp only [z, decide_false]
        exact h2
theorem valAt_has (kvs : List (D × D)) (k : D) : (valAt kvs k).isSome = hasKey k kvs := by
  unfold valAt hasKey
  rw [Option.isSome_map, Bool.eq_iff_iff, List.find?_isSome, List.any_eq_true]
end
end Mi
set_option Elab.async false
set_option linter.all false
set_option maxRecDepth 100000
set_option maxHeartbeats 4000000
namespace Mi
open PySem L2
section
variable {X : Cx} {T : Tb} {c : Gh} {W : WX} {a b e : Expr} {f f1 f2 : MM D} {pos : Pos}
theorem le_none {G : Wd} {H : Hp} {p : Addr} (l : Lh G H) (h : H p = none) : G p = none := by
  cases z : G p with
  | none => rfl
  | some o => have := l p o z; rw [h] at this; cases this
theorem eqV_eqv {K : Fg} {G : Wd} {x y : V} {d e : D} (hx : Dq K G x d) (hy : Dq K G y e) (fx : flatD d = true) (fy : flatD e = true) : eqV x y = D.eqv d e := by
  cases hx <;> cases hy <;> first | rfl | (cases fx; done) | (cases fy; done)
theorem flat_V {K : Fg} {G : Wd} {x : V} {d : D} (hx : Dq K G x d) (fx : flatD d = true) : flatV x = true := by
  cases hx <;> first | rfl | (cases fx)
theorem flat_all {K : Fg} {G : Wd} : ∀ {xs : List V} {ds : List D}, DqAll K G xs ds → ds.all flatD = true → xs.all flatV = true
  | _, _, .nil, _ => rfl
  | _, _, .cons h t, n => by
    rw [List.all_cons, Bool.and_eq_true] at n ⊢
    exact ⟨flat_V h n.1, flat_all t n.2⟩
theorem in_all {K : Fg} {G : Wd} {x : V} {d : D} (hx : Dq K G x d) (fx : flatD d = true) : ∀ {xs : List V} {ds : List D}, DqAll K G xs ds → ds.all flatD = true → inV x xs = inSeq d ds
  | _, _, .nil, _ => rfl
  | _, _, .cons h t, n => by
    rw [List.all_cons, Bool.and_eq_true] at n
    unfold inV inSeq
    rw [List.any_cons, List.any_cons, eqV_eqv h hx n.1 fx]
    exact congrArg _ (in_all hx fx t n.2)
/-- in: a sign in a text, a flat thing in a list or tuple of such, a key in a dict -/
def inB0 (x y : D) : Option Bool := match y with
  | .str z => (match x with
    | .str s => (match s.cps.toList with
      | [ch] => some (decide (ch ∈ z.cps.toList))
      | _ => none)
    | _ => none)
  | .list ys => if flatD x = true ∧ ys.all flatD = true then some (inSeq x ys) else none
  | .tuple ys => if flatD x = true ∧ ys.all flatD = true then some (inSeq x ys) else none
  | .dict kvs => (match keyOf x with
    | some _ => some (hasKey x kvs)
    | none => none)
  | _ => none
def dIn (x y : D) : Res D := match inB0 x y with
  | some b => .ok (.bool b)
  | none => .stuck
def dNotIn (x y : D) : Res D := match inB0 x y with
  | some b => .ok (.bool !b)
  | none => .stuck
def rDIn (neg : Bool) : R2 := fun x y H Q => ∃ a o, y = .ref a ∧ DGet H a x o ∧ Q (.bl (if neg then !o.isSome else o.isSome)) H
theorem op_din (hu : X.A.units + 1 < cLine) : OpR X (compareOp .In) (rDIn false) := by
  intro pins s σ H x y v u Q I rx ry h
  obtain ⟨a, o, rfl, g, q⟩ := h
  cases ry
  exact d_in hu I g rx fun s' I' => ⟨.bl _, H, I', rfl, q⟩
theorem dq_key {K : Fg} {G : Wd} {v : V} {k : Key} (h : Dq K G v (keyD k)) : v = kV k := by
  cases k <;> (cases h; rfl)
theorem dqkv_has {K : Fg} {G : Wd} {k : Key} {kvs : List (Key × V)} {ds : List (D × D)} (h2 : DqKV K G kvs ds) : (valV kvs k).isSome = hasKey (keyD k) ds := by
  rw [← valAt_has]
  rcases dqkv_val (k := k) h2 with ⟨q1, q2⟩ | ⟨v, d, q1, q2, _⟩
  · rw [q1, q2]; rfl
  · rw [q1, q2]; rfl
theorem str_one {s : Str} {ch : Nat} (h : s.cps.toList = [ch]) : s = ⟨#[ch]⟩ := by
  obtain ⟨⟨l⟩⟩ := s
  simp only at h
  subst h
  rfl
def rInAll (K : Fg) (neg : Bool) : R2 := fun x y H Q => (∃ (ch : Nat) (z : Str), x = .str ⟨#[ch]⟩ ∧ y = .str z ∧ Q (.bl (if neg then !decide (ch ∈ z.cps.toList) else decide (ch ∈ z.cps.toList))) H) ∨ rIn K neg x y H Q ∨ rDIn neg x y H Q
theorem in_read {K : Fg} {neg : Bool} {G : Wd} {H : Hp} {x y : V} {d e : D} {b : Bool} {Q : VK} (l : Lh G H) (dx : Dq K G x d) (dy : Dq K G y e) (h : inB0 d e = some b) (q : Q (.bl (if neg then !b else b)) H) : rInAll K neg x y H Q := by
  cases dy with
  | str z =>
    cases dx with
    | str s =>
      unfold inB0 at h
      simp only at h
      split at h
      · rename_i ch hs
        cases h
        exact .inl ⟨ch, z, by rw [str_one hs], rfl, q⟩
      · cases h
    | _ => exact nomatch h
  | lst h1 h2 =>
    unfold inB0 at h
    simp only at h
    split at h
    · rename_i hp
      cases h
      refine .inr (.inl ⟨_, _, rfl, .inl (sqL_sub (.inl h1) l.sub), flat_V dx hp.1, flat_all h2 hp.2, ?_⟩)
      rw [in_all dx hp.1 h2 hp.2]; exact q
    · cases h
  | tup h1 h2 =>
    unfold inB0 at h
    simp only at h
    split at h
    · rename_i hp
      cases h
      refine .inr (.inl ⟨_, _, rfl, .inr (sqT_sub h1.sq l.sub), flat_V dx hp.1, flat_all h2 hp.2, ?_⟩)
      rw [in_all dx hp.1 h2 hp.2]; exact q
    · cases h
  | dic h1 h2 =>
    unfold inB0 at h
    simp only at h
    split at h
    · rename_i k hk
      cases h
      have e := keyOf_keyD hk
      subst e
      have ev := dq_key dx
      subst ev
      refine .inr (.inr ⟨_, _, rfl, .inl ⟨_, k, l.sub.rd _ _ (fun _ _ z => by cases z) h1.rd, rfl, rfl⟩, ?_⟩)
      rw [dqkv_has (k := k) h2]; exact q
    · cases h
  | _ => exact nomatch h
theorem o_in (hu : X.A.units + 1 < cLine) : Op2 X T c W (compareOp .In) dIn := Op2.mk (op_in_sign.or (op_in_seq.or (op_din hu))) (fun G H x y d e q Q l dx dy hq k => by
  unfold dIn at hq
  cases h : inB0 d e with
  | none => rw [h] at hq; cases hq
  | some b =>
    rw [h] at hq
    cases hq
    exact in_read (neg := false) l dx dy h (k.1 _ (.bl _))) fun d e y z => by
  unfold dIn at z
  split at z <;> cases z
def dIx : D → D → Res D
  | .list xs, .int i => (match atI xs i with | some d => .ok d | none => .stuck)
  | .tuple xs, .int i => (match atI xs i with | some d => .ok d | none => .stuck)
  | .dict kvs, k => (match keyOf k with | some _ => (match valAt kvs k with | some d => .ok d | none => .stuck) | none => .stuck)
  | _, _ => .stuck
theorem dq_at {K : Fg} {G : Wd} {vs : List V} {ds : List D} {i : Int} {d : D} (h : DqAll K G vs ds) (e : atI ds i = some d) : ∃ v, atI vs i = some v ∧ Dq K G v d := by
  unfold atI at e ⊢
  rw [h.length]
  cases z : ixN ds.length i with
  | none => rw [z] at e; cases e
  | some k =>
    rw [z] at e
    obtain ⟨v, h1, h2⟩ := h.getD (i := k) (d := d) e
    exact ⟨v, h1, h2⟩
theorem ix_d (hu : X.A.units + 1 < cLine) : IxR X (fun x y H Q => ∃ a v, x = .ref a ∧ DGet H a y (some v) ∧ Q v H) := by
  intro value slice pins s σ H x y v u Q I rx ry h hs
  obtain ⟨a, w', rfl, g, q⟩ := h
  cases rx
  have hT := dict_typeIs I g
  have h2 : wpAny (model X.prog X.w) X.A (getItem (.ref a) u) (EP X pins σ Q) X.xe s := d_getItem hu I g ry fun w2 s3 I3 rw' => ⟨w', H, I3, rw', q⟩
  unfold PyProof.Rows.subscriptTail
  refine wpAny_bind ?_
  rw [getitemInPython_of_ne hT.not_modules]
  refine wpAny_bind (wpAny_specialOf hT PySem.F.slot_dict_getitem.lookup ?_)
  have fin : wpAny (model X.prog X.w) X.A (subscripted slice false (.ref a) u) (fun r s₃ => wpAny (model X.prog X.w) X.A (letTemporaryGo value (.ref a) r >>= fun _ => pure r) (EP X pins σ Q) X.xe s₃) X.xe s := by
    rw [hs]
    exact wpAny_operating (wpAny_mono h2 (fun r s₃ h₃ => wpAny_bind (wpAny_letTemporaryGo (wpAny_pure h₃))) fun _ _ x => x)
  first
    | exact wpAny_pure (wpAny_bind fin)
    | exact wpAny_bind (wpAny_pure (wpAny_bind fin))
    | exact wpAny_bind fin
theorem me_ix (hu : X.A.units + 1 < cLine) (ha : PE X a (mE X.K T c W f1)) (hb : PE X b (mE X.K T c W f2)) (hs : PlainIx b) : PE X (.Subscript a b pos) (mE X.K T c W (op2 dIx f1 f2)) := by
  refine pe_mono (pe_ix (ix_list.or (ix_tup.or (ix_d hu))) ha hb hs) (op2_to fun σ ρ G H x y d e Q j dx dy p => ?_)
  cases dx with
  | lst h1 h2 =>
    cases dy with
    | int i =>
      rename_i ds
      have p2 : pX X.K T c W (relD X.K) σ G Q (lift (match atI ds i with | some d => Res.ok d | none => .stuck) ρ) := p
      cases z : atI ds i with
      | none => rw [z] at p2; exact p2.elim
      | some q =>
        rw [z] at p2
        obtain ⟨v, q1, q2⟩ := dq_at h2 z
        exact .inl ⟨_, _, i, v, rfl, rfl, sqL_sub (.inl h1) j.subH, q1, p2.here j q2⟩
    | _ => exact p.elim
  | tup h1 h2 =>
    cases dy with
    | int i =>
      rename_i ds
      have p2 : pX X.K T c W (relD X.K) σ G Q (lift (match atI ds i with | some d => Res.ok d | none => .stuck) ρ) := p
      cases z : atI ds i with
      | none => rw [z] at p2; exact p2.elim
      | some q =>
        rw [z] at p2
        obtain ⟨v, q1, q2⟩ := dq_at h2 z
        exact .inr (.inl ⟨_, _, i, v, rfl, rfl, sqT_sub h1.sq j.subH, q1, p2.here j q2⟩)
    | _ => exact p.elim
  | dic h1 h2 =>
    rename_i ad kvs ds
    have p2 : pX X.K T c W (relD X.K) σ G Q (lift (match keyOf e with | some _ => (match valAt ds e with | some d => Res.ok d | none => .stuck) | none => .stuck) ρ) := by
      cases e <;> exact p
    cases hk : keyOf e with
    | none => rw [hk] at p2; exact p2.elim
    | some k =>
      rw [hk] at p2
      have ee := keyOf_keyD hk
      subst ee
      have ev := dq_key dy
      subst ev
      rcases dqkv_val (k := k) h2 with ⟨q1, q2⟩ | ⟨v, d, q1, q2, q3⟩
      · simp only [q2] at p2; exact p2.elim
      · simp only [q2] at p2
        exact .inr (.inr ⟨_, v, rfl, .inl ⟨_, k, j.subH.rd _ _ (fun _ _ z => by cases z) h1.rd, rfl, q1.symm⟩, p2.here j q3⟩)
  | _ => exact p.elim
/-- a part of a slice -/
def partN : MM (Option Int) := MM.pure none
def partS (f : MM D) : MM (Option Int) := MM.bind f fun d => match d with
  | .int i => MM.pure (some i)
  | _ => stuck
abbrev relO : Wd → Option Int → Option Int → Prop := fun _ a b => a = b
theorem mo_none : PO X none (mX X.K T c W relO partN) := ⟨fun pins s σ H Q I ⟨G, ρ, j, p⟩ => po_none.run pins s σ H Q I (p.here j rfl)⟩
theorem mo_some (h : PE X e (mE X.K T c W f)) : PO X (some e) (mX X.K T c W relO (partS f)) := ⟨fun pins s σ H Q I ⟨G, ρ, j, p⟩ => (po_some h).run pins s σ H Q I (pX_bind j p fun x v ρ1 G1 H1 l1 j1 r1 p1 => by
  cases r1 with
  | int i => exact ⟨i, rfl, p1.here j1 rfl⟩
  | _ => exact p1.elim)⟩
def cutD (xs : List D) (lo hi : Option Int) : List D := (xs.drop (HT.sIx xs.length 0 lo)).take (HT.sIx xs.length xs.length hi - HT.sIx xs.length 0 lo)
theorem dq_cut {K : Fg} {G : Wd} {vs : List V} {ds : List D} (h : DqAll K G vs ds) (lo hi : Option Int) : DqAll K G (cutV vs lo hi) (cutD ds lo hi) := by
  unfold cutV cutD
  rw [h.length]
  exact (h.drop _).take _
def sliceD (x : D) (lo hi : Option Int) : Res D := match x with
  | .list xs => .ok (.list (cutD xs lo hi))
  | .tuple xs => .ok (.tuple (cutD xs lo hi))
  | .str z => if z.length ≤ sizeLine then .ok (.str (cutS z lo hi)) else .stuck
  | _ => .stuck
def sliceE (f : MM D) (lo hi : MM (Option Int)) : MM D := MM.bind f fun x => MM.bind lo fun l => MM.bind hi fun h => lift (sliceD x l h)
def rSlF (K : Fg) : V → Option Int → Option Int → Hp → VK → Prop := fun x lo hi H Q => ∃ a xs, x = .ref a ∧ SqT K H a xs ∧
  (HT.sIx xs.length 0 lo = 0 ∧ HT.sIx xs.length xs.length hi = xs.length → Q (.ref a) H) ∧ (¬ (HT.sIx xs.length 0 lo = 0 ∧ HT.sIx xs.length xs.length hi = xs.length) → ∀ p o, H p = none → o.dict = none → Q (.ref p) (upd H p (.frz o (.tup (cutV xs lo hi)))))
theorem sl_tupF : SlR X (rSlF X.K) := by
  intro pins s σ H x v vl vu lo hi sl Q I rx hs pl pu h
  obtain ⟨a, xs, rfl, hx, q1, q2⟩ := h
  cases rx
  obtain ⟨its, r, ht, hz⟩ := I.tuple hx
  have hlen : its.toArray.size = xs.length := by rw [List.size_toArray]; exact r.length.symm
  refine ⟨"tuple", _, PyProof.Rows.slot_tuple_getitem.lookup, ht.typeIs, ?_⟩
  by_cases hw : HT.sIx xs.length 0 lo = 0 ∧ HT.sIx xs.length xs.length hi = xs.length
  · exact getItem_tuple_whole ht hs pl pu (by rw [hlen]; exact hw) ⟨.ref a, H, I, rfl, q1 hw⟩
  · refine HT.getItem_tuple_cut ht hs pl pu (by rw [hlen]; exact hw) ?_ (by rw [hlen]; exact hz)
    rw [hlen]
    exact laidT (t' := s.toks) I ((r.drop (HT.sIx xs.length 0 lo)).take (HT.sIx xs.length xs.length hi - HT.sIx xs.length 0 lo)) (Nat.le_trans (cutV_length xs lo hi) hz) (q2 hw)
theorem me_slice {lo hi : Option Expr} {ml mh : MM (Option Int)} {p2 : Pos} (he : PE X e (mE X.K T c W f)) (hl : PO X lo (mX X.K T c W relO ml)) (hh : PO X hi (mX X.K T c W relO mh)) : PE X (.Subscript e (.Slice lo hi none p2) pos) (mE X.K T c W (sliceE f ml mh)) := by
  refine pe_mono (pe_slice (sl_list.or (sl_tupF.or sl_str)) he hl hh) fun σ H Q ⟨G, ρ, j, p⟩ => ?_
  refine pX_bind j p fun x v ρ1 G1 H1 l1 j1 r1 p1 => ?_
  refine pX_bind j1 p1 fun o1 o1' ρ2 G2 H2 l2 j2 r2 p2 => ?_
  cases r2
  refine pX_bind j2 p2 fun o2 o2' ρ3 G3 H3 l3 j3 r3 p3 => ?_
  cases r3
  have r4 := (r1.le l2).le l3
  cases r4 with
  | lst h1 h2 => exact .inl ⟨_, _, rfl, sqL_sub (.inl h1) j3.subH, fun p hp => p3 _ _ _ (Le.upd (j3.fresh hp)) (j3.grow hp) (.lst (.inl upd_same) ((dq_cut h2 _ _).le (Le.upd (j3.fresh hp))))⟩
  | tup h1 h2 =>
    refine .inr (.inl ⟨_, _, rfl, sqT_sub h1.sq j3.subH, fun hw => ?_, fun _ p o hp ho => p3 _ _ _ (Le.upd (j3.fresh hp)) (j3.grow hp) (j3.newT hp ho (dq_cut h2 _ _))⟩)
    rename_i ds
    have e : cutD ds o1 o2 = ds := by
      unfold cutD
      rw [h2.length] at hw
      rw [hw.1, hw.2]
      simp
    have p4 : pX X.K T c W (relD X.K) σ G3 Q (.ok (.tuple (cutD ds o1 o2)) ρ3) := p3
    rw [e] at p4
    exact p4.here j3 (.tup h1 h2)
  | str z =>
    have p4 : pX X.K T c W (relD X.K) σ G3 Q (lift (if z.length ≤ sizeLine then .ok (.str (cutS z o1 o2)) else .stuck) ρ3) := p3
    by_cases hz : z.length ≤ sizeLine
    · rw [if_pos hz] at p4
      exact .inr (.inr ⟨_, rfl, hz, p4.here j3 (.str _)⟩)
    · rw [if_neg hz] at p4
      exact p4.elim
  | _ => exact p3.elim
end
end Mi
set_option Elab.async false
set_option linter.all false
set_option maxRecDepth 100000
set_option maxHeartbeats 4000000
namespace Mi
open PySem L2
/-- what a def leaves of the heap -/
structure Kept (T : Tb) (G : Wd) (H : Hp) (G' : Wd) (H' : Hp) : Prop where
  g : Le G G'
  s : Lh G' H'
  n : ∀ a, G a = none → H a ≠ none → G' a = none
  k : ∀ a o, H a = some o → (∀ ps, o ≠ .tbl ps) → H' a = some o
  t : ∀ a ps, H a = some (.tbl ps) → ∃ ps', H' a = some (.tbl ps')
  tb : TabsC T H'
  nt : ∀ a ps, G' a ≠ some (.tbl ps)
  m : G'.m = G.m
theorem Kept.some {T : Tb} {G G' : Wd} {H H' : Hp} (q : Kept T G H G' H') {a : Addr} (h : ∃ o, H a = some o) : ∃ o, H' a = some o := by
  obtain ⟨o, h⟩ := h
  cases o with
  | tbl ps => obtain ⟨ps', e⟩ := q.t a ps h; exact ⟨_, e⟩
  | _ => exact ⟨_, q.k a _ h (fun _ z => by cases z)⟩
theorem J.after {K : Fg} {T : Tb} {c : Gh} {G G' : Wd} {H H' : Hp} {σ : St} {ρ : MSt} (j : J K T c G H σ ρ) (q : Kept T G H G' H') : J K T c G' H' σ ρ := by
  refine ⟨q.s, j.g0.trans q.g, fun a g0 h0 m => q.n a (j.gn a g0 h0 m) fun z => (j.H0none z).elim h0 m, fun a o e m t => q.k a o (j.fr a o e m t) t, fun a ps e => ?_, j.len, fun i s e ns => ?_, j.ow, j.ap, q.tb, q.nt, fun b μ e => ?_, ⟨fun a m => q.some (j.mj.hr a (by rw [← q.m]; exact m)), fun a m => j.mj.ow a (by rw [← q.m]; exact m), fun a m => j.mj.gr a (by rw [← q.m]; exact m), fun h => q.m.trans (j.mj.nm h), j.mj.wf⟩⟩
  · obtain ⟨ps', h⟩ := j.ft a ps e
    exact q.t a ps' h
  · obtain ⟨v, e1, r⟩ := j.sl i s e ns
    refine ⟨v, e1, ?_⟩
    cases s with
    | sto b μ => cases ns
    | d x => exact Dq.le r q.g
    | ol xs =>
      obtain ⟨b, vs, e2, g, hh, r⟩ := r
      exact ⟨b, vs, e2, q.n b g (by rw [hh]; exact fun z => by cases z), q.k b _ hh (fun _ z => by cases z), r.le q.g⟩
    | od xs =>
      obtain ⟨b, vs, e2, g, hh, r⟩ := r
      exact ⟨b, vs, e2, q.n b g (by rw [hh]; exact fun z => by cases z), q.k b _ hh (fun _ z => by cases z), r.le q.g⟩
    | dc xs =>
      obtain ⟨e0, b, vs, e2, g, hh, r⟩ := r
      exact ⟨e0, b, vs, e2, q.n b g (by rw [hh]; exact fun z => by cases z), q.k b _ hh (fun _ z => by cases z), r.le q.g⟩
  · obtain ⟨s1, s3⟩ := j.st b μ e
    refine ⟨s1.keep q.g q.m (fun b g _ h => q.n b g h) fun b o e z => q.k b o e fun ps y => ?_, s3.eqm q.m⟩
    rcases z with z | ⟨x, z⟩
    · obtain ⟨_, o', h1, h2, _⟩ := s1.there z
      rw [e] at h1; cases h1; exact h2 ps y
    · rw [z] at y; cases y
/-- the promise of a def of data -/
def spF (K : Fg) (T : Tb) (f : List D → Res D) : Sp := fun vs H Q E => ∃ G ds, Lh G H ∧ (∀ a ps, G a ≠ some (.tbl ps)) ∧ TabsC T H ∧ (∀ a ∈ G.m, ∃ o, H a = some o) ∧ DqAll K G vs ds ∧ match f ds with
  | .ok d => ∀ v G' H', Kept T G H G' H' → Dq K G' v d → Q v H'
  | .exn e => ∀ cls dx G' H', Kept T G H G' H' → IsX K G'.hp e cls dx → E cls dx H'
  | .stuck => False
def startM (n : Nat) (ds : List D) : MSt := ds.map (fun d => some (S.d d)) ++ List.replicate (n + 1 - ds.length) none
def endF : Out Fl → Res D
  | .ok (.rt d) _ => .ok d
  | .ok .nx _ => .ok .none
  | .exn e _ => .exn e
  | _ => .stuck
/-- n slots, m parameters -/
def runF (n m : Nat) (b : MM Fl) : List D → Res D := fun ds => if ds.length = m then endF (b (startM n ds)) else .stuck
theorem J.entry {K : Fg} {T : Tb} {G : Wd} {H : Hp} {vs : List V} {ds : List D} {N : List Str} (l : Lh G H) (nt : ∀ a ps, G a ≠ some (.tbl ps)) (tb : TabsC T H) (hm : ∀ a ∈ G.m, ∃ o, H a = some o) (dq : DqAll K G vs ds) (hn : vs.length ≤ N.length) : J K T ⟨H, G, [], 0, false, []⟩ G H (L2.start N vs) (startM N.length ds) := by
  have hl := dq.length
  have get : ∀ (i : Nat) s, (startM N.length ds)[i]? = some (some s) → ∃ d v, s = .d d ∧ (L2.start N vs)[i]? = some (some v) ∧ Dq K G v d := fun i s e => by
    unfold startM at e
    by_cases hi : i < ds.length
    · rw [List.getElem?_append_left (by simpa using hi), List.getElem?_map] at e
      cases q : ds[i]? with
      | none => rw [q] at e; cases e
      | some d =>
        rw [q] at e
        cases e
        obtain ⟨v, h1, h2⟩ := dq.getD q
        refine ⟨d, v, rfl, ?_, h2⟩
        unfold L2.start
        rw [List.getElem?_append_left (by simpa [hl] using hi), List.getElem?_map, h1]
        rfl
    · rw [List.getElem?_append_right (by simpa using hi), List.getElem?_replicate] at e
      split at e <;> cases e
  refine ⟨l, Le.refl G, fun _ h _ _ => h, fun _ _ e _ _ => e, fun _ ps e => ⟨ps, e⟩, ?_, fun i s e ns => ?_, fun i s a e o e2 => ?_, fun i k s t a b e1 e2 o1 o2 f1 f2 n => ?_, tb, nt, fun b μ e => ?_, ⟨hm, fun a m n => ?_, fun a m => .inl m, fun _ => rfl, (fun _ z => by cases z)⟩⟩
  · unfold startM L2.start
    simp only [List.length_append, List.length_map, List.length_replicate]
    omega
  · obtain ⟨d, v, rfl, h1, h2⟩ := get i s e
    exact ⟨v, h1, h2⟩
  · obtain ⟨d, v, rfl, h1, h2⟩ := get i s e
    cases o
  · obtain ⟨d, v, rfl, h1, h2⟩ := get i s e1
    cases o1
  · obtain ⟨d, v, z, h1, h2⟩ := get _ _ e
    cases z
  · obtain ⟨i, s, e1, e2, e3⟩ := mem_owns.mp n
    obtain ⟨d, v, rfl, h1, h2⟩ := get i s e1
    cases e2
theorem J.kept {K : Fg} {T : Tb} {G G' : Wd} {H H' : Hp} {σ : St} {ρ : MSt} (j : J K T ⟨H, G, [], 0, false, []⟩ G' H' σ ρ) : Kept T G H G' H' :=
  ⟨j.g0, j.sub, fun a g h => j.gn a g h (by simp), fun a o e t => j.fr a o e (by simp) t, j.ft, j.tb, j.nt, j.mj.nm rfl⟩
section
variable {P : Program} {w : World} {K : Fg} {mg : Str → Option Value} {base : Heap} {T : Tb}
/-- a def by its body's mirror -/
abbrev cxX (P : Program) (w : World) (K : Fg) (mg : Str → Option Value) (base : Heap) (N : List Str) (qual : Str) (scope : Scope) (f : Addr) (cd : Value) (A : Around) (outer : List Env) (s : Shared) (H : Hp) (E : XK) : Cx := cxOf (L2N.CX P w) P w K mg base N qual scope f cd A outer s H E
theorem okN {x qual : Str} {st : Stmt} {f : Addr} {fd : FuncData} {N ps : List Str} {k : Nat} {sp : Sp} (F : Fun K x qual st f fd) (S : FnScope N ps (defScope st)) (len : ∀ vs H Q E, sp vs H Q E → vs.length = ps.length)
    (hb : ∀ (cdv : Value), cdv = fd.code → ∀ (A : Around) (outer : List Env) (s : Shared) (H : Hp) (vs : List V) (Q : VK) (E : XK), Room k (A.deeper (PyProof.Rows.envOfC qual (defScope st) s.heap.objs.size f cdv)) → sp vs H Q E →
      ∃ t, PSs (cxX P w K mg base N qual (defScope st) f cdv A outer s H E) (defBody st) t ∧ t { nx := fun _ H' => Q .non H', rt := Q } (L2.start N vs) H) : FnOk P w K mg base (L2N.CX P w) (k + 1) f fd ps sp := by
  obtain ⟨oc, od, kV, doc, pm, an, cdv, ct, osl, rfl, lk, hcd⟩ := F.ex
  exact fn_of lk hcd S len fun A outer s H vs Q E hr hsp => hb cdv rfl A outer s H vs Q E hr hsp
theorem fn_def {x qual : Str} {st : Stmt} {f : Addr} {fd : FuncData} {N ps : List Str} {k : Nat} {b : MM Fl} (F : Fun K x qual st f fd) (S : FnScope N ps (defScope st))
    (hb : ∀ (cdv : Value), cdv = fd.code → ∀ (A : Around) (outer : List Env) (s : Shared) (H : Hp) (E : XK) (c : Gh), Room k (A.deeper (PyProof.Rows.envOfC qual (defScope st) s.heap.objs.size f cdv)) →
      PSs (cxX P w K mg base N qual (defScope st) f cdv A outer s H E) (defBody st) (mS K T c (fun cls d _ H => E cls d H) b)) :
    FnOk P w K mg base (L2N.CX P w) (k + 1) f fd ps (spF K T (runF N.length ps.length b)) := by
  have hpl : ps.length ≤ N.length := by have := congrArg List.length S.pre; rw [List.length_take] at this; omega
  refine okN F S (fun vs H Q E h => ?_) fun cdv hcd A outer s H vs Q E hr h => ⟨_, hb cdv hcd A outer s H E ⟨H, h.choose, [], 0, false, []⟩ hr, ?_⟩
  · obtain ⟨G, ds, _, _, _, _, dq, p⟩ := h
    unfold runF at p
    by_cases z : ds.length = ps.length
    · rw [dq.length, z]
    · rw [if_neg z] at p; exact p.elim
  · have h2 := h.choose_spec
    generalize hG : h.choose = G at h2 ⊢
    obtain ⟨ds, l, nt, tb, hm, dq, p⟩ := h2
    unfold runF at p
    by_cases z : ds.length = ps.length
    · rw [if_pos z] at p
      refine ⟨G, startM N.length ds, J.entry l nt tb hm dq (by rw [dq.length, z]; exact hpl), ?_⟩
      cases e : b (startM N.length ds) with
      | ok fl ρ' =>
        rw [e] at p
        cases fl with
        | nx => exact fun σ' G' H' l' j' => p .non G' H' j'.kept .non
        | rt d => exact fun v σ' G' H' l' j' dv => p v G' H' j'.kept dv
        | bk => exact p.elim
        | ct => exact p.elim
      | exn y ρ' =>
        rw [e] at p
        exact fun cls dx σ' G' H' l' j' i => p cls dx G' H' j'.kept i
      | stuck => rw [e] at p; exact p.elim
    · rw [if_neg z] at p; exact p.elim
end
section
variable {X : Cx} {T : Tb} {c : Gh} {W : WX} {a b e : Expr} {f f1 f2 : MM D} {pos p : Pos}
/-- f(e, ..), f a def of data -/
def callE (fm : List D → Res D) (g : MM (List D)) : MM D := MM.bind g fun ds => lift (fm ds)
theorem call_to {g : MM (List D)} {fm : List D → Res D} (σ : St) (H : Hp) (Q : VK) (h : mE X.K T c W (callE fm g) σ H Q) : tCallS (spF X.K T fm) (WE W) (mA X.K T c W g) σ H Q := by
  obtain ⟨G, ρ, j, p⟩ := h
  refine pX_bind j p fun ds vs ρ1 G1 H1 l1 j1 r1 p1 => ⟨G1, ds, j1.sub, j1.nt, j1.tb, j1.mj.hr, r1, ?_⟩
  cases z : fm ds with
  | ok d =>
    rw [z] at p1
    exact fun v G' H' q dv => p1 v G' H' q.g (j1.after q) dv
  | exn y =>
    rw [z] at p1
    exact fun cls dx G' H' q i => p1 cls dx G' H' q.g (j1.after q) i
  | stuck => rw [z] at p1; exact p1.elim
theorem me_call {x : Str} {es : List Expr} {g : MM (List D)} {k : Nat} {fa : Addr} {fd : FuncData} {ps : List Str} {fm : List D → Res D} (F : FnOk X.prog X.w X.K X.mg X.base (L2N.CX X.prog X.w) k fa fd ps (spF X.K T fm)) (hr : Room k X.A) (hg : Gl X x) (hm : X.mg x = some (.ref fa)) (hk : PySem.W.keepIn X.K (.ref fa) = true)
    (hb : Binds X.K fd ps []) (tk : L2N.Takes X W) (ha : PA X (e :: es) (mA X.K T c W g)) (hdb : (x == ("__debug__" : Str)) = false := by decide) (he : starEach (e :: es) X.env = (false, eval e X.env) :: starEach es X.env := by rfl) (hpl : (backTo pos (starEach es X.env)).any (·.1) = false := by rfl) :
    PE X (.Call (.Name x p) (e :: es) [] pos) (mE X.K T c W (callE fm g)) :=
  pe_mono (pe_callS F hr hg hm hk hb (fun σ => L2N.passAt tk σ) ha hdb he hpl) call_to
def Fn1 (X : Cx) (T : Tb) (c : Gh) (W : WX) (fv : Value) (g : List D → Res D) : Prop :=
  ∃ r : List V → Hp → VK → Prop, CallR X fv r ∧ ∀ σ ρ G H xs ds (Q : VK), J X.K T c G H σ ρ → DqAll X.K G xs ds → pX X.K T c W (relD X.K) σ G Q (lift (g ds) ρ) → r xs H Q
theorem CallR.or {fv : Value} {r r' : List V → Hp → VK → Prop} (h : CallR X fv r) (h' : CallR X fv r') : CallR X fv (fun xs H Q => r xs H Q ∨ r' xs H Q) := by
  intro pins s σ H xs us Q I rx q
  rcases q with q | q
  · exact h pins s σ H xs us Q I rx q
  · exact h' pins s σ H xs us Q I rx q
/-- the new object is locked for good -/
def LockQ (Q : VK) : VK := fun v H1 => ∃ d u, v = .ref d ∧ H1 d = some u ∧ Mut (some u) ∧ ∀ od, Q v (upd H1 d (.frz od u))
theorem CallR.lock {fv : Value} {r : List V → Hp → VK → Prop} (h : CallR X fv r) : CallR X fv (fun xs H Q => r xs H (LockQ Q)) := by
  intro pins s σ H xs us Q I rx q
  refine thn (h pins s σ H xs us _ I rx q) fun v s1 ⟨x, H1, I1, r1, d, u, e, hd, mu, k⟩ => ?_
  obtain ⟨od, I2⟩ := I1.lock hd mu
  exact ⟨x, _, I2, r1, k od⟩
theorem pe_lockV {te : TE} (h : PE X e te) : PE X e (fun σ H Q => te σ H (LockQ Q)) := by
  refine ⟨fun pins s σ H Q I q => ?_⟩
  refine thn (h.run pins s σ H _ I q) fun v s1 ⟨x, H1, I1, r1, d, u, e, hd, mu, k⟩ => ?_
  obtain ⟨od, I2⟩ := I1.lock hd mu
  exact ⟨x, _, I2, r1, k od⟩
theorem pss_lockV {sts : List Stmt} {t : TS} (h : PSs X sts t) : PSs X sts (fun Dn σ H => ∃ d u, H d = some u ∧ Mut (some u) ∧ ∀ od, t Dn σ (upd H d (.frz od u))) := by
  refine ⟨fun pins s σ H Dn I ⟨d, u, hd, mu, k⟩ => ?_⟩
  obtain ⟨od, I2⟩ := I.lock hd mu
  exact h.run pins s σ _ Dn I2 (k od)
theorem LockQ.new {Q : VK} {H : Hp} {p : Addr} {u : HO} (mu : Mut (some u)) (h : ∀ od, Q (.ref p) (upd H p (.frz od u))) : LockQ Q (.ref p) (upd H p u) :=
  ⟨p, u, rfl, upd_same, mu, fun od => by rw [upd_upd]; exact h od⟩
theorem Fn1.mk {fv : Value} {g : List D → Res D} {r : List V → Hp → VK → Prop} (h : CallR X fv r)
    (k : ∀ G H xs ds q (Q : VK), Lh G H → DqAll X.K G xs ds → g ds = .ok q → ((∀ v, Dq X.K G v q → Q v H) ∧ ∀ p o, H p = none → (∀ ps, o ≠ .tbl ps) → Dq X.K (wupd G p o) (.ref p) q → Q (.ref p) (upd H p o)) → r xs H Q)
    (nx : ∀ ds y, g ds ≠ .exn y) : Fn1 X T c W fv g := by
  refine ⟨r, h, fun σ ρ G H xs ds Q j dx p => ?_⟩
  cases q : g ds with
  | ok z =>
    rw [q] at p
    refine k G H xs ds z Q j.sub dx q ⟨fun v dv => p.here j dv, fun p' o hn nt dv => ?_⟩
    exact p _ _ _ (Le.upd (j.fresh hn)) (j.grow hn nt) dv
  | exn y => exact absurd q (nx ds y)
  | stuck => rw [q] at p; exact p.elim
theorem callB_to {g : MM (List D)} {fm : List D → Res D} {r : List V → Hp → VK → Prop} (k : ∀ σ ρ G H xs ds (Q : VK), J X.K T c G H σ ρ → DqAll X.K G xs ds → pX X.K T c W (relD X.K) σ G Q (lift (fm ds) ρ) → r xs H Q)
    (σ : St) (H : Hp) (Q : VK) (h : mE X.K T c W (callE fm g) σ H Q) : tCB r (mA X.K T c W g) σ H Q := by
  obtain ⟨G, ρ, j, p⟩ := h
  exact pX_bind j p fun ds vs ρ1 G1 H1 l1 j1 r1 p1 => k σ ρ1 G1 H1 vs ds Q j1 r1 p1
theorem me_callB {x : Str} {id : String} {es : List Expr} {g : MM (List D)} {fm : List D → Res D} (hc : Fn1 X T c W (.builtin id) fm) (hg : Gl X x) (hm : X.mg x = none) (hv : bootBuiltins x = some (.builtin id)) (ha : PA X (e :: es) (mA X.K T c W g)) (hn : x ≠ "__name__" := by decide) (hdb : (x == ("__debug__" : Str)) = false := by decide)
    (he : starEach (e :: es) X.env = (false, eval e X.env) :: starEach es X.env := by rfl) (hpl : (backTo pos (starEach es X.env)).any (·.1) = false := by rfl) : PE X (.Call (.Name x p) (e :: es) [] pos) (mE X.K T c W (callE fm g)) := by
  obtain ⟨r, h, k⟩ := hc
  exact pe_mono (pe_callB h hg hm hv ha hn hdb he hpl) (callB_to k)
def tyN : D → String
  | .none => "NoneType" | .bool _ => "bool" | .int _ => "int" | .str _ => "str" | .list _ => "list" | .tuple _ => "tuple" | .dict _ => "dict" | .loc _ => "" | .exc _ => "" | .fn _ => ""
def isLoc : D → Bool
  | .loc _ => true
  | .exc _ => true
  | .fn _ => true
  | _ => false
theorem tyX_of {K : Fg} {G : Wd} {H : Hp} {v : V} {d : D} (l : Lh G H) (h : Dq K G v d) (nl : isLoc d = false) : TyX K H v (.type (tyN d)) := by
  cases h with
  | loc h => cases nl
  | exc h => cases nl
  | fn => cases nl
  | non => exact .base .non
  | bl b => exact .base (.bl b)
  | int i => exact .base (.int i)
  | str x => exact .base (.str x)
  | lst h _ =>
    rcases h with h | ⟨o, h⟩
    · exact .base (.lst (l _ _ h))
    · exact .base (.frz (l _ _ h))
  | tup h _ =>
    rcases h with ⟨o, h, _⟩ | ⟨o, its, n, h, hc, _⟩
    · exact .fTuple (l _ _ h)
    · exact .kTuple h hc
  | dic h _ =>
    obtain ⟨o, h⟩ := h
    exact .fDict (l _ _ h)
def isiK (t : D → Bool) (d : D) : MM D := if isLoc d = true then stuck else MM.pure (.bool (t d))
def isiE (t : D → Bool) (f : MM D) : MM D := MM.bind f (isiK t)
theorem me_isi {Ty : String} {q : Str} {t : D → Bool} {p2 : Pos} (ht : ∀ d, isLoc d = false → kitB (tyN d) Ty = some (t d)) (hg : Gl X "isinstance") (hm : X.mg "isinstance" = none) (hgT : Gl X q) (hmT : X.mg q = none) (hvT : bootBuiltins q = some (.type Ty)) (ha : PE X a (mE X.K T c W f))
    (hv : bootBuiltins "isinstance" = some (.builtin "isinstance")) (hnT : q ≠ "__name__" := by decide) (hdT : (q == ("__debug__" : Str)) = false := by decide)
    (he : starEach (a :: [.Name q p2]) X.env = (false, eval a X.env) :: starEach [.Name q p2] X.env := by rfl) (he2 : starEach [.Name q p2] X.env = (false, eval (.Name q p2) X.env) :: starEach [] X.env := by rfl) (hpl : (backTo pos (starEach [.Name q p2] X.env)).any (·.1) = false := by rfl) :
    PE X (.Call (.Name "isinstance" p) [a, .Name q p2] [] pos) (mE X.K T c W (isiE t f)) := by
  refine pe_mono (pe_callB call_isi hg hm hv (pa_cons ha (pa_cons (pe_bltn (v := .ty Ty) hgT hmT hvT rfl hnT hdT) pa_nil he2) he) (by decide) (by decide) he hpl) fun σ H Q ⟨G, ρ, j, p⟩ => ?_
  refine pX_bind j p fun d v ρ1 G1 H1 l1 j1 r1 p1 => ?_
  unfold isiK at p1
  by_cases nl : isLoc d = true
  · rw [if_pos nl] at p1; exact p1.elim
  · rw [if_neg nl] at p1
    have nl : isLoc d = false := by simpa using nl
    exact ⟨v, .ty Ty, _, _, t d, rfl, .ty Ty, tyX_of j1.sub r1 nl, kit_ty (ht d nl), p1.here j1 (.bl _)⟩
def isInt : D → Bool
  | .int _ | .bool _ => true
  | _ => false
def isBool : D → Bool
  | .bool _ => true
  | _ => false
def isStr : D → Bool
  | .str _ => true
  | _ => false
def isTup : D → Bool
  | .tuple _ => true
  | _ => false
def isLst : D → Bool
  | .list _ => true
  | _ => false
def isDic : D → Bool
  | .dict _ => true
  | _ => false
theorem kit_int : ∀ d, isLoc d = false → kitB (tyN d) "int" = some (isInt d)
  | .none, _ => (by decide +kernel : kitB "NoneType" "int" = some false)
  | .bool _, _ => (by decide +kernel : kitB "bool" "int" = some true)
  | .int _, _ => (by decide +kernel : kitB "int" "int" = some true)
  | .str _, _ => (by decide +kernel : kitB "str" "int" = some false)
  | .list _, _ => (by decide +kernel : kitB "list" "int" = some false)
  | .tuple _, _ => (by decide +kernel : kitB "tuple" "int" = some false)
  | .dict _, _ => (by decide +kernel : kitB "dict" "int" = some false)
  | .loc _, z => by cases z
  | .exc _, z => by cases z
  | .fn _, z => by cases z
theorem kit_bool : ∀ d, isLoc d = false → kitB (tyN d) "bool" = some (isBool d)
  | .none, _ => (by decide +kernel : kitB "NoneType" "bool" = some false)
  | .bool _, _ => (by decide +kernel : kitB "bool" "bool" = some true)
  | .int _, _ => (by decide +kernel : kitB "int" "bool" = some false)
  | .str _, _ => (by decide +kernel : kitB "str" "bool" = some false)
  | .list _, _ => (by decide +kernel : kitB "list" "bool" = some false)
  | .tuple _, _ => (by decide +kernel : kitB "tuple" "bool" = some false)
  | .dict _, _ => (by decide +kernel : kitB "dict" "bool" = some false)
  | .loc _, z => by cases z
  | .exc _, z => by cases z
  | .fn _, z => by cases z
theorem kit_str : ∀ d, isLoc d = false → kitB (tyN d) "str" = some (isStr d)
  | .none, _ => (by decide +kernel : kitB "NoneType" "str" = some false)
  | .bool _, _ => (by decide +kernel : kitB "bool" "str" = some false)
  | .int _, _ => (by decide +kernel : kitB "int" "str" = some false)
  | .str _, _ => (by decide +kernel : kitB "str" "str" = some true)
  | .list _, _ => (by decide +kernel : kitB "list" "str" = some false)
  | .tuple _, _ => (by decide +kernel : kitB "tuple" "str" = some false)
  | .dict _, _ => (by decide +kernel : kitB "dict" "str" = some false)
  | .loc _, z => by cases z
  | .exc _, z => by cases z
  | .fn _, z => by cases z
theorem kit_tup : ∀ d, isLoc d = false → kitB (tyN d) "tuple" = some (isTup d)
  | .none, _ => (by decide +kernel : kitB "NoneType" "tuple" = some false)
  | .bool _, _ => (by decide +kernel : kitB "bool" "tuple" = some false)
  | .int _, _ => (by decide +kernel : kitB "int" "tuple" = some false)
  | .str _, _ => (by decide +kernel : kitB "str" "tuple" = some false)
  | .list _, _ => (by decide +kernel : kitB "list" "tuple" = some false)
  | .tuple _, _ => (by decide +kernel : kitB "tuple" "tuple" = some true)
  | .dict _, _ => (by decide +kernel : kitB "dict" "tuple" = some false)
  | .loc _, z => by cases z
  | .exc _, z => by cases z
  | .fn _, z => by cases z
theorem kit_lst : ∀ d, isLoc d = false → kitB (tyN d) "list" = some (isLst d)
  | .none, _ => (by decide +kernel : kitB "NoneType" "list" = some false)
  | .bool _, _ => (by decide +kernel : kitB "bool" "list" = some false)
  | .int _, _ => (by decide +kernel : kitB "int" "list" = some false)
  | .str _, _ => (by decide +kernel : kitB "str" "list" = some false)
  | .list _, _ => (by decide +kernel : kitB "list" "list" = some true)
  | .tuple _, _ => (by decide +kernel : kitB "tuple" "list" = some false)
  | .dict _, _ => (by decide +kernel : kitB "dict" "list" = some false)
  | .loc _, z => by cases z
  | .exc _, z => by cases z
  | .fn _, z => by cases z
theorem kit_dic : ∀ d, isLoc d = false → kitB (tyN d) "dict" = some (isDic d)
  | .none, _ => (by decide +kernel : kitB "NoneType" "dict" = some false)
  | .bool _, _ => (by decide +kernel : kitB "bool" "dict" = some false)
  | .int _, _ => (by decide +kernel : kitB "int" "dict" = some false)
  | .str _, _ => (by decide +kernel : kitB "str" "dict" = some false)
  | .list _, _ => (by decide +kernel : kitB "list" "dict" = some false)
  | .tuple _, _ => (by decide +kernel : kitB "tuple" "dict" = some false)
  | .dict _, _ => (by decide +kernel : kitB "dict" "dict" = some true)
  | .loc _, z => by cases z
  | .exc _, z => by cases z
  | .fn _, z => by cases z
end
end Mi
set_option Elab.async false
set_option linter.all false
set_option maxRecDepth 100000
set_option maxHeartbeats 4000000
namespace Mi
open PySem L2
section
variable {X : Cx} {T : Tb} {c : Gh} {W : WX} {a b e : Expr} {f f1 f2 : MM D} {pos p : Pos}
def dLen : List D → Res D
  | [.list xs] => .ok (.int xs.length)
  | [.tuple xs] => .ok (.int xs.length)
  | [.str s] => if s.length ≤ sizeLine then .ok (.int s.length) else .stuck
  | [.dict kvs] => .ok (.int kvs.length)
  | _ => .stuck
theorem call_lenR : CallR X (.builtin "len") (fun xs H Q => ∃ a kvs, xs = [V.ref a] ∧ Rd H a (.dK kvs) ∧ Q (.int kvs.length) H) := by
  intro pins s σ H xs us Q I r h
  obtain ⟨a, kvs, rfl, ha, q⟩ := h
  obtain ⟨u, rfl, ru⟩ := vals1 r
  cases ru
  exact d_len I ha fun t s' I' => ⟨.int _, H, I', ⟨t, rfl⟩, q⟩
theorem b_len : Fn1 X T c W (.builtin "len") dLen := Fn1.mk (CallR.or call_len_seq (CallR.or call_len_str call_lenR)) (fun G H xs ds q Q l dq hq k => by
  cases dq with
  | nil => exact nomatch hq
  | cons d r =>
    cases r with
    | cons _ _ => cases d <;> exact nomatch hq
    | nil =>
      cases d with
      | lst h1 h2 => cases hq; exact .inl ⟨_, _, rfl, .inl (sqL_sub (.inl h1) l.sub), by rw [h2.length]; exact k.1 _ (.int _)⟩
      | tup h1 h2 => cases hq; exact .inl ⟨_, _, rfl, .inr (sqT_sub h1.sq l.sub), by rw [h2.length]; exact k.1 _ (.int _)⟩
      | str s => obtain ⟨p, rfl⟩ := ite_res hq; exact .inr (.inl ⟨_, rfl, p, k.1 _ (.int _)⟩)
      | dic h1 h2 => cases hq; exact .inr (.inr ⟨_, _, rfl, l.sub.rd _ _ (fun _ _ z => by cases z) h1.rd, by rw [h2.length]; exact k.1 _ (.int _)⟩)
      | _ => exact nomatch hq) fun ds y z => by
  unfold dLen at z
  split at z <;> first | (exact ite_nx z) | (exact nomatch z)
def toBools : List D → Option (List Bool)
  | [] => some []
  | .bool b :: r => (toBools r).map (b :: ·)
  | _ => none
def toInts : List D → Option (List Int)
  | [] => some []
  | .int i :: r => (toInts r).map (i :: ·)
  | _ => none
theorem vs_bools {K : Fg} {G : Wd} : ∀ {vs : List V} {ds : List D} {bs : List Bool}, DqAll K G vs ds → toBools ds = some bs → vs = bs.map V.bl
  | _, _, _, .nil, h => by cases h; rfl
  | _, _, _, .cons (d := d) h t, e => by
    cases h with
    | bl b =>
      unfold toBools at e
      cases q : toBools _ with
      | none => rw [q] at e; cases e
      | some r => rw [q] at e; cases e; rw [List.map_cons, vs_bools t q]
    | _ => exact nomatch e
theorem vs_ints {K : Fg} {G : Wd} : ∀ {vs : List V} {ds : List D} {bs : List Int}, DqAll K G vs ds → toInts ds = some bs → vs = bs.map V.int
  | _, _, _, .nil, h => by cases h; rfl
  | _, _, _, .cons (d := d) h t, e => by
    cases h with
    | int b =>
      unfold toInts at e
      cases q : toInts _ with
      | none => rw [q] at e; cases e
      | some r => rw [q] at e; cases e; rw [List.map_cons, vs_ints t q]
    | _ => exact nomatch e
def onBools (g : List Bool → D) : List D → Res D
  | [.list ds] => (match toBools ds with | some bs => .ok (g bs) | none => .stuck)
  | _ => .stuck
def onInts (g : List Int → Res D) : List D → Res D
  | [.list ds] => (match toInts ds with | some bs => g bs | none => .stuck)
  | _ => .stuck
def dAll : List D → Res D := onBools fun bs => .bool (bs.all id)
def dAny : List D → Res D := onBools fun bs => .bool (bs.any id)
def dSum : List D → Res D := onInts fun ns => .ok (.int ns.sum)
theorem onBools_ok {g : List Bool → D} {ds : List D} {q : D} (h : onBools g ds = .ok q) : ∃ es bs, ds = [.list es] ∧ toBools es = some bs ∧ q = g bs := by
  unfold onBools at h
  split at h
  · rename_i es
    cases z : toBools es with
    | none => rw [z] at h; cases h
    | some bs => rw [z] at h; cases h; exact ⟨es, bs, rfl, z, rfl⟩
  · cases h
theorem onBools_nx {g : List Bool → D} {ds : List D} {y : Exn} (h : onBools g ds = .exn y) : False := by
  unfold onBools at h
  split at h
  · split at h <;> cases h
  · cases h
theorem onInts_ok {g : List Int → Res D} {ds : List D} {q : D} (h : onInts g ds = .ok q) : ∃ es bs, ds = [.list es] ∧ toInts es = some bs ∧ g bs = .ok q := by
  unfold onInts at h
  split at h
  · rename_i es
    cases z : toInts es with
    | none => rw [z] at h; cases h
    | some bs => rw [z] at h; exact ⟨es, bs, rfl, z, h⟩
  · cases h
theorem onInts_nx {g : List Int → Res D} (hg : ∀ bs y, g bs ≠ .exn y) {ds : List D} {y : Exn} (h : onInts g ds = .exn y) : False := by
  unfold onInts at h
  split at h
  · split at h
    · exact hg _ _ h
    · cases h
  · cases h
theorem one_list {K : Fg} {G : Wd} {xs : List V} {es : List D} (h : DqAll K G xs [.list es]) : ∃ a vs, xs = [.ref a] ∧ Rd G a (.lst vs) ∧ DqAll K G vs es := by
  cases h with
  | cons d r =>
    cases r
    cases d with
    | lst h1 h2 => exact ⟨_, _, rfl, h1, h2⟩
theorem b_all (hc : X.calm = true) : Fn1 X T c W (.builtin "all") dAll := Fn1.mk (cr_all hc) (fun G H xs ds q Q l dq hq k => by
  obtain ⟨es, bs, rfl, h1, rfl⟩ := onBools_ok hq
  obtain ⟨a, vs, rfl, h2, h3⟩ := one_list dq
  rw [vs_bools h3 h1] at h2
  exact ⟨a, bs, rfl, sqL_sub (.inl h2) l.sub, k.1 _ (.bl _)⟩) fun ds y z => onBools_nx z
theorem b_sum (hc : X.calm = true) : Fn1 X T c W (.builtin "sum") dSum := Fn1.mk (cr_sum hc) (fun G H xs ds q Q l dq hq k => by
  obtain ⟨es, bs, rfl, h1, h4⟩ := onInts_ok hq
  cases h4
  obtain ⟨a, vs, rfl, h2, h3⟩ := one_list dq
  rw [vs_ints h3 h1] at h2
  exact ⟨a, bs, rfl, sqL_sub (.inl h2) l.sub, k.1 _ (.int _)⟩) fun ds y z => onInts_nx (fun bs y q => by cases q) z
def maxL : List Int → Option Int
  | [] => none
  | x :: xs => some (xs.foldl (fun a b => if b > a then b else a) x)
def minL : List Int → Option Int
  | [] => none
  | x :: xs => some (xs.foldl (fun a b => if b < a then b else a) x)
theorem foldmax (xs : List Int) : ∀ x : Int, (xs.foldl (fun a b => if b > a then b else a) x ∈ x :: xs) ∧ ∀ y ∈ x :: xs, y ≤ xs.foldl (fun a b => if b > a then b else a) x := by
  induction xs with
  | nil => intro x; simp
  | cons z zs ih =>
    intro x
    obtain ⟨h1, h2⟩ := ih (if z > x then z else x)
    rw [List.foldl_cons]
    refine ⟨?_, fun y hy => ?_⟩
    · rcases List.mem_cons.mp h1 with h | h
      · rw [h]; split <;> simp
      · simp [h]
    · have h3 := h2 _ List.mem_cons_self
      rcases List.mem_cons.mp hy with h | h
      · subst h
        exact Int.le_trans (show y ≤ (if z > y then z else y) by split <;> omega) h3
      · rcases List.mem_cons.mp h with h | h
        · subst h
          exact Int.le_trans (show y ≤ (if y > x then y else x) by split <;> omega) h3
        · exact h2 y (List.mem_cons_of_mem _ h)
theorem foldmin (xs : List Int) : ∀ x : Int, (xs.foldl (fun a b => if b < a then b else a) x ∈ x :: xs) ∧ ∀ y ∈ x :: xs, xs.foldl (fun a b => if b < a then b else a) x ≤ y := by
  induction xs with
  | nil => intro x; simp
  | cons z zs ih =>
    intro x
    obtain ⟨h1, h2⟩ := ih (if z < x then z else x)
    rw [List.foldl_cons]
    refine ⟨?_, fun y hy => ?_⟩
    · rcases List.mem_cons.mp h1 with h | h
      · rw [h]; split <;> simp
      · simp [h]
    · have h3 := h2 _ List.mem_cons_self
      rcases List.mem_cons.mp hy with h | h
      · subst h
        exact Int.le_trans h3 (show (if z < y then z else y) ≤ y by split <;> omega)
      · rcases List.mem_cons.mp h with h | h
        · subst h
          exact Int.le_trans h3 (show (if y < x then y else x) ≤ y by split <;> omega)
        · exact h2 y (List.mem_cons_of_mem _ h)
theorem maxL_is {ns : List Int} {m m' : Int} (h : maxL ns = some m) (h1 : m' ∈ ns) (h2 : ∀ y ∈ ns, y ≤ m') : m' = m := by
  cases ns with
  | nil => cases h
  | cons x xs =>
    cases h
    obtain ⟨a, b⟩ := foldmax xs x
    have := b m' h1
    have := h2 _ a
    omega
theorem minL_is {ns : List Int} {m m' : Int} (h : minL ns = some m) (h1 : m' ∈ ns) (h2 : ∀ y ∈ ns, m' ≤ y) : m' = m := by
  cases ns with
  | nil => cases h
  | cons x xs =>
    cases h
    obtain ⟨a, b⟩ := foldmin xs x
    have := b m' h1
    have := h2 _ a
    omega
def intOr (o : Option Int) : Res D := match o with
  | some m => .ok (.int m)
  | none => .stuck
def dMax : List D → Res D
  | [.int i, .int j] => .ok (.int (if j > i then j else i))
  | ds => onInts (fun ns => intOr (maxL ns)) ds
def dMin : List D → Res D
  | [.int i, .int j] => .ok (.int (if j < i then j else i))
  | ds => onInts (fun ns => intOr (minL ns)) ds
theorem b_max (hc : X.calm = true) : Fn1 X T c W (.builtin "max") dMax := Fn1.mk (CallR.or (call_max2 hc) (cr_max hc)) (fun G H xs ds q Q l dq hq k => by
  unfold dMax at hq
  split at hq
  · rename_i i j
    cases hq
    cases dq with
    | cons d1 r =>
      cases r with
      | cons d2 r =>
        cases r
        cases d1
        cases d2
        exact .inl ⟨_, _, rfl, k.1 _ (.int _)⟩
  · obtain ⟨es, bs, rfl, h1, h4⟩ := onInts_ok hq
    obtain ⟨a, vs, rfl, h2, h3⟩ := one_list dq
    rw [vs_ints h3 h1] at h2
    cases z : maxL bs with
    | none => rw [z] at h4; cases h4
    | some m =>
      rw [z] at h4
      cases h4
      refine .inr ⟨a, bs, rfl, sqL_sub (.inl h2) l.sub, by cases bs with | nil => cases z | cons _ _ => simp, fun m' e1 e2 => ?_⟩
      rw [maxL_is z e1 e2]
      exact k.1 _ (.int _)) fun ds y z => by
  unfold dMax at z
  split at z
  · cases z
  · exact onInts_nx (fun bs y q => by unfold intOr at q; split at q <;> cases q) z
theorem b_min (hc : X.calm = true) : Fn1 X T c W (.builtin "min") dMin := Fn1.mk (CallR.or (call_min2 hc) (cr_min hc)) (fun G H xs ds q Q l dq hq k => by
  unfold dMin at hq
  split at hq
  · rename_i i j
    cases hq
    cases dq with
    | cons d1 r =>
      cases r with
      | cons d2 r =>
        cases r
        cases d1
        cases d2
        exact .inl ⟨_, _, rfl, k.1 _ (.int _)⟩
  · obtain ⟨es, bs, rfl, h1, h4⟩ := onInts_ok hq
    obtain ⟨a, vs, rfl, h2, h3⟩ := one_list dq
    rw [vs_ints h3 h1] at h2
    cases z : minL bs with
    | none => rw [z] at h4; cases h4
    | some m =>
      rw [z] at h4
      cases h4
      refine .inr ⟨a, bs, rfl, sqL_sub (.inl h2) l.sub, by cases bs with | nil => cases z | cons _ _ => simp, fun m' e1 e2 => ?_⟩
      rw [minL_is z e1 e2]
      exact k.1 _ (.int _)) fun ds y z => by
  unfold dMin at z
  split at z
  · cases z
  · exact onInts_nx (fun bs y q => by unfold intOr at q; split at q <;> cases q) z
def dTuple : List D → Res D
  | [.list xs] => .ok (.tuple xs)
  | [.tuple xs] => .ok (.tuple xs)
  | _ => .stuck
def dList : List D → Res D
  | [.list xs] => .ok (.list xs)
  | [.tuple xs] => .ok (.list xs)
  | _ => .stuck
end
end Mi
set_option Elab.async false
set_option linter.all false
set_option maxRecDepth 100000
set_option maxHeartbeats 4000000
namespace Mi
open PySem L2
def alikeB (ds : List D) : Bool := ds.all fun d => ds.all fun d' => PySem.W.alike d.py d'.py
theorem alikeB_ok {ds : List D} (h : alikeB ds = true) : PySem.W.AllAlike (ds.map D.py) := fun d hd d' hd' => by
  obtain ⟨x, hx, rfl⟩ := List.mem_map.mp hd
  obtain ⟨y, hy, rfl⟩ := List.mem_map.mp hd'
  exact List.all_eq_true.mp (List.all_eq_true.mp h x hx) y hy
def tupNE : D → Bool
  | .tuple (_ :: _) => true
  | _ => false
def plainK : D → Bool
  | .none => false
  | .tuple _ => false
  | .loc _ => false
  | .exc _ => false
  | .fn _ => false
  | _ => true
def sortB (ds : List D) : Bool := ds.all tupNE || ds.all plainK
theorem sortB_ok {ds : List D} (h : sortB ds = true) : PySem.W.Sortable (ds.map D.py) := by
  unfold sortB at h
  rw [Bool.or_eq_true] at h
  rcases h with h | h
  · refine .inl fun d hd => ?_
    obtain ⟨x, hx, rfl⟩ := List.mem_map.mp hd
    have q := List.all_eq_true.mp h x hx
    unfold tupNE at q
    split at q
    · exact ⟨_, _, rfl⟩
    · cases q
  · refine .inr fun d hd => ?_
    obtain ⟨x, hx, rfl⟩ := List.mem_map.mp hd
    have q := List.all_eq_true.mp h x hx
    constructor
    · intro e; cases x <;> first | (cases q; done) | (cases e; done)
    · intro xs e; cases x <;> first | (cases q; done) | (cases e; done)
def leD : D → D → Bool := PySem.W.dataLe false D.py
def sortOk (ds : List D) : Bool := alikeB ds && sortB ds && noDicts ds && ds.all fun d => decide (d.depth ≤ 60)
def sortL (ds : List D) : List D := ds.mergeSort leD
theorem each_zip : ∀ {vs : List V} {us : List Value} {ds : List D}, Vals vs us → vs.length = ds.length → PySem.W.EachIs (fun (u : Value) (b : V × D) => RelV b.1 u) us (vs.zip ds)
  | _, _, [], .nil, _ => .nil
  | _, _, _ :: _, .nil, h => by simp at h
  | _, _, [], .cons _ _, h => by simp at h
  | _, _, d :: ds, .cons r t, h => .cons r (each_zip t (by simpa using h))
section
variable {X : Cx} {T : Tb} {c : Gh} {W : WX} {a b e : Expr} {f f1 f2 : MM D} {pos p : Pos}
theorem each_reads {pins : List (Addr × Obj)} {s : Shared} {σ : St} {H : Hp} (I : Inv X pins σ H s) : ∀ {vs : List V} {us : List Value} {ds : List D}, Vals vs us → DpAll X.K H vs (pys ds) → PySem.W.EachIs (fun (u : Value) (b : V × D) => ∃ as, Reads s.heap u b.2.py as) us (vs.zip ds)
  | _, _, [], .nil, _ => .nil
  | _, _, _ :: _, .cons r t, .cons h1 h2 => .cons (Dp.reads I _ _ _ h1 r) (each_reads I t h2)
theorem vals_each : ∀ {us : List Value} {ps : List (V × D)}, PySem.W.EachIs (fun (u : Value) (b : V × D) => RelV b.1 u) us ps → Vals (ps.map (·.1)) us
  | _, _, .nil => .nil
  | _, _, .cons r t => .cons r (vals_each t)
def rSortD (K : Fg) : List V → Hp → VK → Prop := fun xs H Q => ∃ a vs ds, xs = [V.ref a] ∧ SqL K H a vs ∧ DpAll K H vs (pys ds) ∧ vs.length = ds.length ∧ sortOk ds = true ∧
  ∀ p, H p = none → Q (.ref p) (upd H p (.lst (((vs.zip ds).mergeSort (PySem.W.dataLe false (·.2.py))).map (·.1))))
theorem cr_sortD (hu : X.A.units + 64 < cLine) : CallR X (.builtin "sorted") (rSortD X.K) := by
  intro pins s σ H xs us Q I r h
  obtain ⟨a, vs, ds, rfl, hs, dp, hl, ok, q⟩ := h
  obtain ⟨its, rv, pl, hz⟩ := I.list hs
  rw [Vals.ref1 r]
  unfold sortOk at ok
  simp only [Bool.and_eq_true, List.all_eq_true, decide_eq_true_eq] at ok
  obtain ⟨⟨⟨o1, o2⟩, o3⟩, o4⟩ := ok
  have em : (vs.zip ds).map (·.2) = ds := List.map_snd_zip (by omega)
  have em2 : (vs.zip ds).map (fun b : V × D => b.2.py) = ds.map D.py := by rw [← em, List.map_map]; rw [em]; rfl
  refine PySem.W.sorted_data (enc := fun b : V × D => b.2.py) (bs := vs.zip ds) pl.isList (each_zip rv hl) (each_reads I rv dp) (by rw [em2]; exact alikeB_ok o1) (by rw [em2]; exact sortB_ok o2) (by rw [List.length_zip, hl, Nat.min_self, ← hl]; exact hz)
    (fun b hb => ?_) fun out h1 h2 => ?_
  · have hb2 : b.2 ∈ ds := by rw [← em]; exact List.mem_map.mpr ⟨b, hb, rfl⟩
    have := o4 b.2 hb2
    unfold D.depth at this
    omega
  · obtain ⟨ep, he'⟩ := PyProof.Rows.sortedAll_at s.heap its (List.toArray out)
    refine ⟨.ref _, upd H (s.heap.objs.size + 1) (.lst (((vs.zip ds).mergeSort (PySem.W.dataLe false (·.2.py))).map (·.1))), I.laid (t' := s.toks) (fun _ _ => PyProof.Rows.sortedAll_old) (Nat.le_succ _) ⟨?_, out, ep, vals_each h2, by simpa using he'⟩, rfl, q _ (I.hok.fresh (Nat.le_succ _))⟩
    rw [List.length_map, List.length_mergeSort, List.length_zip, hl, Nat.min_self, ← hl]
    exact hz
theorem dq_pairs {K : Fg} {G : Wd} : ∀ {ps : List (V × D)}, (∀ p ∈ ps, Dq K G p.1 p.2) → DqAll K G (ps.map (·.1)) (ps.map (·.2))
  | [], _ => .nil
  | p :: ps, h => .cons (h p List.mem_cons_self) (dq_pairs fun q hq => h q (List.mem_cons_of_mem _ hq))
theorem dq_zip {K : Fg} {G : Wd} : ∀ {vs : List V} {ds : List D}, DqAll K G vs ds → ∀ p ∈ vs.zip ds, Dq K G p.1 p.2
  | _, _, .nil, p, h => by simp at h
  | _, _, .cons h t, p, hp => by
    rw [List.zip_cons_cons] at hp
    rcases List.mem_cons.mp hp with e | e
    · subst e; exact h
    · exact dq_zip t p e
theorem dq_sorted {K : Fg} {G : Wd} {vs : List V} {ds : List D} (h : DqAll K G vs ds) : DqAll K G (((vs.zip ds).mergeSort (PySem.W.dataLe false (·.2.py))).map (·.1)) (sortL ds) := by
  have e : sortL ds = ((vs.zip ds).mergeSort (PySem.W.dataLe false (·.2.py))).map (·.2) := by
    unfold sortL leD
    have hm : (vs.zip ds).map (·.2) = ds := List.map_snd_zip (by rw [h.length]; exact Nat.le_refl _)
    have hs := PySem.W.sort_maps (r := PySem.W.dataLe false (fun b : V × D => b.2.py)) (s := PySem.W.dataLe false D.py) (l := vs.zip ds) (fun b : V × D => b.2) (fun _ _ _ _ => rfl)
    rw [hm] at hs
    exact hs.symm
  rw [e]
  refine dq_pairs fun p hp => ?_
  have hp' : p ∈ vs.zip ds := (List.mergeSort_perm (vs.zip ds) _).mem_iff.mp hp
  exact dq_zip h p hp'
def allStr : List (D × D) → Option (List Str)
  | [] => some []
  | (.str s, _) :: r => (allStr r).map (s :: ·)
  | _ => none
def dSorted : List D → Res D
  | [.list ds] => if sortOk ds = true then .ok (.list (sortL ds)) else .stuck
  | [.dict kvs] => (match allStr kvs with
    | some ks => if ks.length < 64 then .ok (.list (sortL (ks.map .str))) else .stuck
    | none => .stuck)
  | _ => .stuck
theorem keys_str {K : Fg} {G : Wd} : ∀ {kvs : List (Key × V)} {ds : List (D × D)} {ks : List Str}, DqKV K G kvs ds → allStr ds = some ks → kvs.map (·.1) = ks.map Sum.inr
  | _, _, _, .nil, h => by cases h; rfl
  | _, _, _, .cons (k := k) h t, e => by
    cases k with
    | inl i => exact nomatch e
    | inr s =>
      have e : (allStr _).map (s :: ·) = some _ := e
      cases q : allStr _ with
      | none => rw [q] at e; cases e
      | some r =>
        rw [q] at e
        cases e
        rw [List.map_cons, List.map_cons, keys_str t q]
theorem pw_rising : ∀ {p : Str} {l : List Str}, PyProof.Rows.risingS p l = true → (p :: l).Pairwise (fun a b => decide (a.cps.toList ≤ b.cps.toList) = true)
  | p, [], _ => by simp
  | p, x :: r, h => by
    obtain ⟨h1, h2⟩ := Bool.and_eq_true_iff.mp (show (!PySem.Spec.ltCps x.cps.toList p.cps.toList && PyProof.Rows.risingS x r) = true from h)
    have q := pw_rising h2
    have hle : p.cps.toList ≤ x.cps.toList := by
      have : PySem.Spec.ltCps x.cps.toList p.cps.toList = false := by simpa using h1
      rw [PyProof.Rows.ltCps_eq, decide_eq_false_iff_not] at this; exact List.not_lt.mp this
    refine List.pairwise_cons.mpr ⟨fun y hy => ?_, q⟩
    rcases List.mem_cons.mp hy with e | e
    · subst e; exact decide_eq_true hle
    · exact decide_eq_true (List.le_trans hle (of_decide_eq_true ((List.pairwise_cons.mp q).1 y e)))
theorem pw_sortedS {l : List Str} (h : PyProof.Rows.sortedS l = true) : l.Pairwise (fun a b => decide (a.cps.toList ≤ b.cps.toList) = true) := by
  cases l with
  | nil => exact .nil
  | cons x r => exact pw_rising h
theorem sorted_strs_eq {ys ks : List Str} (hp : ys.Perm ks) (hs : PyProof.Rows.sortedS ys = true) : ys.map D.str = sortL (ks.map .str) := by
  have e1 := PySem.W.sort_maps (r := PySem.W.dataLe false (fun s : Str => PyData.str s)) (s := leD) (l := ks) D.str (fun _ _ _ _ => rfl)
  unfold sortL
  rw [← e1]
  congr 1
  rw [PySem.W.dataLe_str (fun s : Str => s)]
  refine PySem.W.Srt.the_of_perm _ (fun x y z h1 h2 => ?_) (fun x y => ?_) (fun x y h1 h2 => ?_) hp ?_
  · simp only [decide_eq_true_eq] at *
    exact List.le_trans h1 h2
  · simp only [Bool.or_eq_true, decide_eq_true_eq]
    exact List.le_total _ _
  · simp only [decide_eq_true_eq] at *
    exact PySem.W.str_of_cps (List.le_antisymm h1 h2)
  · exact pw_sortedS hs
theorem dq_strs {K : Fg} {G : Wd} : ∀ ys : List Str, DqAll K G (ys.map V.str) (ys.map D.str)
  | [] => .nil
  | y :: ys => .cons (.str y) (dq_strs ys)
theorem b_sorted (hc : X.calm = true) (hu : X.A.units + 64 < cLine) : Fn1 X T c W (.builtin "sorted") dSorted := Fn1.mk (CallR.or (cr_sortD hu) (call_sortedD hc)) (fun G H xs ds q Q l dq hq k => by
  unfold dSorted at hq
  split at hq
  · rename_i es
    obtain ⟨ok, rfl⟩ := ite_res hq
    obtain ⟨a, vs, rfl, h2, h3⟩ := one_list dq
    have nd : noDicts es = true := by
      unfold sortOk at ok
      simp only [Bool.and_eq_true] at ok
      exact ok.1.2
    refine .inl ⟨a, vs, es, rfl, sqL_sub (.inl h2) l.sub, dpAll_of (h3.up l) nd, h3.length, ok, fun p hp => k.2 p _ hp (by intro _ z; cases z) ?_⟩
    exact .lst (.inl upd_same) ((dq_sorted h3).le (Le.upd (le_none l hp)))
  · rename_i kvs
    cases z : allStr kvs with
    | none => rw [z] at hq; cases hq
    | some ks =>
      rw [z] at hq
      obtain ⟨ok, rfl⟩ := ite_res hq
      cases dq with
      | cons d r =>
        cases r
        cases d with
        | dic h1 h2 =>
          refine .inr ⟨_, _, ks, rfl, l.sub.rd _ _ (fun _ _ z => by cases z) h1.rd, keys_str h2 z, ok, fun ys p hy hs hp => k.2 p _ hp (by intro _ z; cases z) ?_⟩
          rw [← sorted_strs_eq hy hs]
          exact .lst (.inl upd_same) (dq_strs ys)
  · cases hq) fun ds y z => by
  unfold dSorted at z
  split at z
  · exact ite_nx z
  · split at z
    · exact ite_nx z
    · cases z
  · cases z
end
end Mi
set_option Elab.async false
set_option linter.all false
set_option maxRecDepth 100000
namespace Mi
open PySem L2
section
variable {X : Cx} {T : Tb} {c : Gh} {W : WX} {a b e : Expr} {f f1 f2 f3 : MM D} {pos p : Pos}
def putD (kvs : List (D × D)) (k v : D) : List (D × D) := if hasKey k kvs = true then kvs.map fun kv => if D.eqv kv.1 k = true then (kv.1, v) else kv else kvs ++ [(k, v)]
def mergeD (kvs more : List (D × D)) : List (D × D) := more.foldl (fun acc kv => putD acc kv.1 kv.2) kvs
theorem DqKV.app {K : Fg} {G : Wd} : ∀ {vs ws : List (Key × V)} {ds es : List (D × D)}, DqKV K G vs ds → DqKV K G ws es → DqKV K G (vs ++ ws) (ds ++ es)
  | _, _, _, _, .nil, h => h
  | _, _, _, _, .cons h t, h2 => .cons h (DqKV.app t h2)
theorem DqKV.repl {K : Fg} {G : Wd} {k : Key} {v : V} {d : D} (r : Dq K G v d) : ∀ {kvs : List (Key × V)} {ds : List (D × D)}, DqKV K G kvs ds → DqKV K G (kvs.map fun kv => if kv.1 = k then (kv.1, v) else kv) (ds.map fun kv => if D.eqv kv.1 (keyD k) = true then (kv.1, d) else kv)
  | _, _, .nil => .nil
  | _, _, .cons (k := k') h t => by
    rw [List.map_cons, List.map_cons]
    simp only [eqv_key, decide_eq_true_eq]
    have ih := DqKV.repl (k := k) r t
    by_cases z : k' = k
    · rw [if_pos z, if_pos z]; exact .cons r ih
    · rw [if_neg z, if_neg z]; exact .cons h ih
theorem DqKV.put {K : Fg} {G : Wd} {k : Key} {v : V} {d : D} {kvs : List (Key × V)} {ds : List (D × D)} (h : DqKV K G kvs ds) (r : Dq K G v d) : DqKV K G (putK kvs k v) (putD ds (keyD k) d) := by
  unfold putK putD
  have e : (kvs.any fun kv => decide (kv.1 = k)) = hasKey (keyD k) ds := by rw [valV_any, dqkv_has h]
  rw [e]
  by_cases z : hasKey (keyD k) ds = true
  · rw [if_pos z, if_pos z]; exact h.repl r
  · rw [if_neg z, if_neg z]; exact h.app (.cons r .nil)
theorem DqKV.merge {K : Fg} {G : Wd} : ∀ {more : List (Key × V)} {ms : List (D × D)} {kvs : List (Key × V)} {ds : List (D × D)}, DqKV K G more ms → DqKV K G kvs ds → DqKV K G (mergeK kvs more) (mergeD ds ms)
  | _, _, _, _, .nil, h => h
  | _, _, _, _, .cons (kvs := kr) (ds := dr) (k := k) (v := v) (d := d) h t, h2 => by
    show DqKV K G (mergeK (putK _ k v) kr) (mergeD (putD _ (keyD k) d) dr)
    exact DqKV.merge t (h2.put h)
def toPairs : List D → Option (List (D × D))
  | [] => some []
  | .tuple [k, v] :: r => (match keyOf k with
    | some _ => (toPairs r).map ((k, v) :: ·)
    | none => none)
  | _ => none
theorem pairs_at {K : Fg} {G : Wd} {H : Hp} (l : Lh G H) : ∀ {vs : List V} {ds : List D} {ms : List (D × D)}, DqAll K G vs ds → toPairs ds = some ms → ∃ (ps : List Addr) (kvs : List (Key × V)), vs = ps.map V.ref ∧ Paired (fun p kv => SqT K H p [kV kv.1, kv.2]) ps kvs ∧ DqKV K G kvs ms
  | _, _, _, .nil, e => by cases e; exact ⟨[], [], rfl, .nil, .nil⟩
  | _, _, _, .cons (d := d) (ds := ds) h t, e => by
    cases h with
    | tup hq hr =>
      cases hr with
      | nil => exact nomatch e
      | cons d1 hr =>
        cases hr with
        | nil => exact nomatch e
        | cons d2 hr =>
          cases hr with
          | cons _ _ => exact nomatch e
          | nil =>
            rename_i a v1 k v2 vd
            have e2 : (match keyOf k with | some _ => (toPairs ds).map ((k, vd) :: ·) | none => none) = some _ := e
            cases hk : keyOf k with
            | none => rw [hk] at e2; cases e2
            | some key =>
              rw [hk] at e2
              cases hp : toPairs ds with
              | none => rw [hp] at e2; cases e2
              | some r =>
                rw [hp] at e2
                cases e2
                obtain ⟨ps, kvs, q1, q2, q3⟩ := pairs_at l t hp
                have ek := keyOf_keyD hk
                subst ek
                have ev := dq_key d1
                subst ev
                exact ⟨a :: ps, (key, v2) :: kvs, by rw [q1]; rfl, .cons (sqT_sub hq.sq l.sub) q2, .cons d2 q3⟩
    | _ => exact nomatch e
def dDict : List D → Res D
  | [.list ds] => (match toPairs ds with | some ms => .ok (.dict (mergeD [] ms)) | none => .stuck)
  | [.tuple ds] => (match toPairs ds with | some ms => .ok (.dict (mergeD [] ms)) | none => .stuck)
  | [.dict kvs] => .ok (.dict kvs)
  | _ => .stuck
def get1E (f1 f2 : MM D) : MM D := MM.bind f1 fun x => match x with
  | .dict kvs => MM.bind f2 fun k => match keyOf k with
    | some _ => MM.pure ((valAt kvs k).getD .none)
    | none => stuck
  | _ => stuck
def get2E (f1 f2 f3 : MM D) : MM D := MM.bind f1 fun x => match x with
  | .dict kvs => MM.bind f2 fun k => MM.bind f3 fun z => match keyOf k with
    | some _ => MM.pure ((valAt kvs k).getD z)
    | none => stuck
  | _ => stuck
theorem me_gstr {x z : Str} (hg : Gl X x) (hm : ∃ t, X.mg x = some (.str z t)) (hd : (x == ("__debug__" : Str)) = false := by decide) : PE X (.Name x pos) (mE X.K T c W (MM.pure (.str z))) := by
  obtain ⟨t, hm⟩ := hm
  exact me_const (pe_glob (v := V.str z) hg hm ⟨t, rfl⟩ hd) fun _ => .str z
def zipD : List D → List D → List D
  | x :: xs, y :: ys => .tuple [x, y] :: zipD xs ys
  | _, _ => []
def zip2 : List D → Res (List D)
  | [.list xs, .list ys] => .ok (zipD xs ys)
  | [.tuple xs, .tuple ys] => .ok (zipD xs ys)
  | _ => .stuck
def enumD : Nat → List D → List D
  | _, [] => []
  | i, x :: xs => .tuple [.int i, x] :: enumD (i + 1) xs
theorem enumD_length : ∀ (n : Nat) (xs : List D), (enumD n xs).length = xs.length
  | _, [] => rfl
  | n, x :: xs => by simp [enumD, enumD_length (n + 1) xs]
theorem enumD_get : ∀ {xs : List D} {n i : Nat} {x : D}, xs[i]? = some x → (enumD n xs)[i]? = some (.tuple [.int ((n + i : Nat) : Int), x])
  | [], _, _, _, h => by simp at h
  | a :: xs, n, 0, x, h => by simp at h; subst h; rfl
  | a :: xs, n, i + 1, x, h => by
    simp only [List.getElem?_cons_succ] at h
    show (enumD (n + 1) xs)[i]? = _
    rw [enumD_get (n := n + 1) h]
    congr 4
    omega
theorem gives_enum {K : Fg} {c : Gh} {G : Wd} {a : Addr} {vs : List V} {ds : List D} (hq : SqL K G a vs) (hr : DqAll K G vs ds) : Gives (relY K) (Ite K a) c G (enumD 0 ds) where
  go := fun i G1 H l1 l2 _ hi => by
    rw [enumD_length, ← hr.length] at hi
    exact ⟨vs, vs[i], sqL_sub (sqL_sub hq l1.sub) l2.sub, by simp [hi]⟩
  stop := fun G1 H l1 l2 _ => ⟨vs, sqL_sub (sqL_sub hq l1.sub) l2.sub, by rw [enumD_length, ← hr.length]; exact Nat.le_refl _⟩
  yld := fun i G1 H x H' l1 l2 _ hi y => by
    obtain ⟨T, u, rfl, hn, rfl, y1⟩ := y
    obtain ⟨d1, e1, q1⟩ := hr.get (y1 vs (sqL_sub (sqL_sub hq l1.sub) l2.sub))
    have l3 : Le G1 (wupd G1 T (.tup [V.int i, u])) := Le.upd (le_none l2 hn)
    refine ⟨.tuple [.int i, d1], by simpa using enumD_get (n := 0) e1, .inr ⟨T, _, hn, (by intro _ z; cases z), rfl, .inr ⟨T, _, _, rfl, rfl, SqT.of upd_same, .cons (.int _) (.cons ((q1.le l1).le l3) .nil)⟩⟩⟩
end
end Mi
set_option Elab.async false
set_option linter.all false
namespace Mi
open PySem L2
section
variable {K : Fg} {T : Tb} {c : Gh} {G G' : Wd} {H H' : Hp} {σ : St} {ρ : MSt}
theorem RS.addr {da : Addr} {s : S} {v : V} (h : RS K da G H s v) (o : s.own = true) : ∃ a u, v = .ref a ∧ G a = none ∧ H a = some u ∧ (∀ ps, u ≠ .tbl ps) ∧ (∀ x q, u ≠ LamX.CodeO x q) ∧ (∀ x, u ≠ .own x) := by
  cases s with
  | d x => cases o
  | sto b μ => cases o
  | ol xs => obtain ⟨a, vs, e, g, hh, _⟩ := h; exact ⟨a, _, e, g, hh, (fun _ z => by cases z), (fun _ _ z => by unfold LamX.CodeO at z; cases z), (fun _ z => by cases z)⟩
  | od xs => obtain ⟨a, vs, e, g, hh, _⟩ := h; exact ⟨a, _, e, g, hh, (fun _ z => by cases z), (fun _ _ z => by unfold LamX.CodeO at z; cases z), (fun _ z => by cases z)⟩
  | dc xs => obtain ⟨_, a, vs, e, g, hh, _⟩ := h; exact ⟨a, _, e, g, hh, (fun _ z => by cases z), (fun _ _ z => by unfold LamX.CodeO at z; cases z), (fun _ z => by cases z)⟩
theorem drop_owns {i : Nat} {a : Addr} (h : a ∈ owns (σ.set i none) (ρ.set i none)) : a ∈ owns σ ρ := by
  obtain ⟨k, s, e1, e2, e3⟩ := mem_owns.mp h
  have z : k ≠ i := fun z => by
    subst z
    by_cases hk : k < ρ.length
    · rw [List.getElem?_set_self hk] at e1; cases e1
    · rw [List.getElem?_eq_none (by simpa using hk)] at e1; cases e1
  rw [List.getElem?_set_ne (Ne.symm z)] at e1 e3
  exact mem_owns.mpr ⟨k, s, e1, e2, e3⟩
/-- a slot that owns -/
theorem J.setOwn (j : J K T c G H σ ρ) {i : Nat} {a : Addr} {s : S} (hi : i + 1 < ρ.length) (r : RS K c.da G H s (.ref a)) (o : s.own = true) (h0 : c.H0 a = none ∨ a ∈ c.M) (no : a ∉ owns (σ.set i none) (ρ.set i none)) (nm : a ∉ G.m) : J K T c G H (σ.set i (some (.ref a))) (ρ.set i (some s)) := by
  have hs : i < σ.length := by have := j.len; omega
  have hi' : i < ρ.length := by omega
  have at_ : ∀ {k : Nat} {t : S}, (ρ.set i (some s))[k]? = some (some t) → (k = i ∧ t = s) ∨ (k ≠ i ∧ ρ[k]? = some (some t)) := fun {k t} e => by
    by_cases z : k = i
    · subst z; rw [List.getElem?_set_self hi'] at e; cases e; exact .inl ⟨rfl, rfl⟩
    · rw [List.getElem?_set_ne (Ne.symm z)] at e; exact .inr ⟨z, e⟩
  have other : ∀ {k : Nat} {t : S} {b : Addr}, k ≠ i → ρ[k]? = some (some t) → t.own = true → σ[k]? = some (some (.ref b)) → a ≠ b := fun {k t b} z e1 e2 e3 q => by
    subst q
    exact no (mem_owns.mpr ⟨k, t, by rw [List.getElem?_set_ne (Ne.symm z)]; exact e1, e2, by rw [List.getElem?_set_ne (Ne.symm z)]; exact e3⟩)
  refine ⟨j.sub, j.g0, j.gn, j.fr, j.ft, by simp [j.len], fun k t e ns => ?_, fun k t b e o e2 => ?_, fun k l t u b d e1 e2 o1 o2 f1 f2 n => ?_, j.tb, j.nt, fun b μ e => ?_, ⟨j.mj.hr, fun b m n => ?_, j.mj.gr, j.mj.nm, j.mj.wf⟩⟩
  · rcases at_ e with ⟨rfl, rfl⟩ | ⟨z, e⟩
    · exact ⟨.ref a, List.getElem?_set_self hs, r⟩
    · obtain ⟨w, h1, h2⟩ := j.sl k t e ns
      exact ⟨w, by rw [List.getElem?_set_ne (Ne.symm z)]; exact h1, h2⟩
  · rcases at_ e with ⟨rfl, rfl⟩ | ⟨z, e⟩
    · rw [List.getElem?_set_self hs] at e2; cases e2; exact h0
    · rw [List.getElem?_set_ne (Ne.symm z)] at e2; exact j.ow k t b e o e2
  · rcases at_ e1 with ⟨z, q1⟩ | ⟨z, q1⟩
    · rcases at_ e2 with ⟨z2, q2⟩ | ⟨z2, q2⟩
      · exact absurd (z.trans z2.symm) n
      · rw [z, List.getElem?_set_self hs] at f1
        cases f1
        rw [List.getElem?_set_ne (Ne.symm z2)] at f2
        exact other z2 q2 o2 f2
    · rw [List.getElem?_set_ne (Ne.symm z)] at f1
      rcases at_ e2 with ⟨z2, q2⟩ | ⟨z2, q2⟩
      · rw [z2, List.getElem?_set_self hs] at f2
        cases f2
        exact (other z q1 o1 f1).symm
      · rw [List.getElem?_set_ne (Ne.symm z2)] at f2
        exact j.ap k l t u b d q1 q2 o1 o2 f1 f2 n
  · rw [List.length_set] at e
    rw [List.getElem?_set_ne (by omega)] at e
    exact j.st b μ e
  · obtain ⟨k, t, e1, e2, e3⟩ := mem_owns.mp n
    rcases at_ e1 with ⟨z, q1⟩ | ⟨z, q1⟩
    · rw [z, List.getElem?_set_self hs] at e3
      cases e3
      exact nm m
    · rw [List.getElem?_set_ne (Ne.symm z)] at e3
      exact j.mj.ow b m (mem_owns.mpr ⟨k, t, q1, e2, e3⟩)
/-- the slot's own object is changed -/
theorem J.upOwn (j : J K T c G H σ ρ) {i : Nat} {a : Addr} {s s' : S} {o : HO} (e : ρ[i]? = some (some s)) (ho : s.own = true) (hv : σ[i]? = some (some (.ref a))) (ho' : s'.own = true) (r : RS K c.da G (upd H a o) s' (.ref a)) : J K T c G (upd H a o) σ (ρ.set i (some s')) := by
  obtain ⟨v, e1, r1⟩ := j.sl i s e (S.own_sto ho)
  have hn : i < σ.length := (List.getElem?_eq_some_iff.mp hv).1
  have nm : a ∉ G.m := fun m => j.mj.ow a m (mem_owns.mpr ⟨i, s, e, ho, hv⟩)
  rw [hv] at e1
  cases e1
  obtain ⟨a', u, ea, g, hh, t1, t2, t3⟩ := r1.addr ho
  cases ea
  have hi : i < ρ.length := (List.getElem?_eq_some_iff.mp e).1
  have no : a ∉ owns (σ.set i none) (ρ.set i none) := fun m => by
    obtain ⟨k, t, f1, f2, f3⟩ := mem_owns.mp m
    have z : k ≠ i := fun z => by
      subst z
      rw [List.getElem?_set_self hi] at f1; cases f1
    rw [List.getElem?_set_ne (Ne.symm z)] at f1 f3
    exact j.ap i k s t a a e f1 ho f2 hv f3 (Ne.symm z) rfl
  have jd := (j.drop1 i).write (o' := o) g hh t1 t2 (j.ow i s a e ho hv) no nm t3
  have hl : i + 1 < (ρ.set i none).length := by have := j.len; simp; omega
  have js := jd.setOwn (i := i) (a := a) (s := s') hl r ho' (j.ow i s a e ho hv) (by rw [List.set_set, List.set_set]; exact no) nm
  rw [List.set_set, List.set_set] at js
  have es : σ.set i (some (.ref a)) = σ := by
    apply List.ext_getElem?
    intro k
    by_cases z : k = i
    · subst z; rw [List.getElem?_set_self hn, hv]
    · rw [List.getElem?_set_ne (Ne.symm z)]
  rw [es] at js
  exact js
/-- all that is owned, seen as data -/
def seenS : S → Option S
  | .ol xs => some (.d (.list xs))
  | .dc xs => some (.d (.list xs))
  | .od _ => none
  | .d x => some (.d x)
  | .sto _ μ => some (.sto false μ)
def seen (ρ : MSt) : MSt := ρ.map (fun o => o.bind seenS)
theorem seen_get {i : Nat} {s : S} (h : (seen ρ)[i]? = some (some s)) : ∃ t, ρ[i]? = some (some t) ∧ seenS t = some s := by
  unfold seen at h
  rw [List.getElem?_map] at h
  cases e : ρ[i]? with
  | none => rw [e] at h; cases h
  | some o =>
    rw [e] at h
    cases o with
    | none => cases h
    | some t => exact ⟨t, rfl, Option.some.inj h⟩
theorem seenS_own {s t : S} (h : seenS s = some t) : t.own = false := by cases s <;> cases h <;> rfl
open Classical in
noncomputable def withOwn (G : Wd) (H : Hp) (l : List Addr) : Wd := ⟨fun a => if a ∈ l then H a else G a, G.m⟩
theorem withOwn_le (j : J K T c G H σ ρ) : Le G (withOwn G H (owns σ ρ)) := ⟨fun a o e => by
  show (if a ∈ owns σ ρ then H a else G a) = some o
  split
  · exact j.sub a o e
  · exact e, List.prefix_refl _⟩
theorem withOwn_sub (j : J K T c G H σ ρ) : Lh (withOwn G H (owns σ ρ)) H := fun a o e => by
  have e : (if a ∈ owns σ ρ then H a else G a) = some o := e
  split at e
  · exact e
  · exact j.sub a o e
theorem J.seen (j : J K T c G H σ ρ) : J K T ⟨H, withOwn G H (owns σ ρ), [], c.da, false, c.lk⟩ (withOwn G H (owns σ ρ)) H σ (seen ρ) := by
  refine ⟨withOwn_sub j, Le.refl _, fun _ e _ _ => e, fun _ _ e _ _ => e, fun _ ps e => ⟨ps, e⟩, by unfold Mi.seen; rw [List.length_map]; exact j.len, fun i s e ns => ?_, fun i s a e o _ => ?_, fun i k s t a b e1 e2 o1 o2 f1 f2 n => ?_, j.tb, fun a ps z => ?_, fun b μ e => ?_, ⟨j.mj.hr, fun a m n => ?_, fun a m => .inl m, fun _ => rfl, fun a h => ⟨by simp, (j.hereFz h).2⟩⟩⟩
  · obtain ⟨t, e1, es⟩ := seen_get e
    have nt : t.isSto = false := by cases t <;> first | rfl | (cases es; cases ns)
    obtain ⟨v, h1, r⟩ := j.sl i t e1 nt
    refine ⟨v, h1, ?_⟩
    have l := withOwn_le j
    have at_ : ∀ {a : Addr}, v = .ref a → t.own = true → (withOwn G H (owns σ ρ)).hp a = H a := fun {a} hv o => by
      show (if a ∈ owns σ ρ then H a else G a) = H a
      rw [if_pos (mem_owns.mpr ⟨i, t, e1, o, by rw [← hv]; exact h1⟩)]
    cases t with
    | d x => cases es; exact Dq.le r l
    | ol xs => cases es; obtain ⟨a, vs, rfl, g, hh, r⟩ := r; exact .lst (.inl (by rw [at_ rfl rfl]; exact hh)) (r.le l)
    | dc xs => cases es; obtain ⟨_, a, vs, rfl, g, hh, r⟩ := r; exact .lst (.inl (by rw [at_ rfl rfl]; exact hh)) (r.le l)
    | od xs => cases es
    | sto b μ => cases nt
  · obtain ⟨t, e1, es⟩ := seen_get e
    rw [seenS_own es] at o; cases o
  · obtain ⟨t, e1, es⟩ := seen_get e1
    rw [seenS_own es] at o1; cases o1
  · have z : (if a ∈ owns σ ρ then H a else G a) = _ := z
    split at z
    · rename_i m
      obtain ⟨i, s, h1, h2, h3⟩ := mem_owns.mp m
      obtain ⟨v, q1, q2⟩ := j.sl i s h1 (S.own_sto h2)
      rw [h3] at q1
      cases q1
      obtain ⟨a', u, ea, _, hh, t1, _⟩ := q2.addr h2
      cases ea
      rw [hh] at z
      exact t1 ps (Option.some.inj z)
    · exact j.nt a ps z
  · obtain ⟨t, e1, es⟩ := seen_get e
    have : ∃ b', t = .sto b' μ ∧ b = false := by cases t <;> cases es; exact ⟨_, rfl, rfl⟩
    obtain ⟨b', rfl, rfl⟩ := this
    obtain ⟨s1, s3⟩ := j.st b' μ e1
    refine ⟨s1.keep (withOwn_le j) rfl (fun d g m _ => ?_) fun d o e _ => e, (fun z => by cases z), (fun z => by cases z), s3.lk⟩
    show (if d ∈ owns σ ρ then H d else G d) = none
    rw [if_neg (fun n => ?_)]
    · exact g
    · rcases m with m | ⟨x, m⟩
      · exact j.mj.ow d m n
      · obtain ⟨i, s, h1, h2, h3⟩ := mem_owns.mp n
        obtain ⟨v, q1, q2⟩ := j.sl i s h1 (S.own_sto h2)
        rw [h3] at q1
        cases q1
        obtain ⟨a', u, ea, _, hh, _, _, t3⟩ := q2.addr h2
        cases ea
        rw [hh] at m
        exact t3 x (Option.some.inj m)
  · obtain ⟨i, s, h1, h2, h3⟩ := mem_owns.mp n
    obtain ⟨t, e1, es⟩ := seen_get h1
    rw [seenS_own es] at h2; cases h2
/-- .. and back, nothing of it kept -/
theorem J.unseen (j : J K T c G H σ ρ) {G2 : Wd} {ρ2 : MSt} (j2 : J K T ⟨H, withOwn G H (owns σ ρ), [], c.da, false, c.lk⟩ G2 H' σ ρ2) : J K T c G H' σ ρ :=
  j.after ⟨Le.refl G, ((withOwn_le j).trans j2.g0).lh j2.sub, fun _ e _ => e, fun a o e t => j2.fr a o e (by simp) t, j2.ft, j2.tb, j.nt, rfl⟩
end
def scal : D → Bool
  | .none | .bool _ | .int _ | .str _ => true
  | _ => false
def borrow (f : MM D) : MM D := fun ρ => match f (seen ρ) with
  | .ok d _ => if scal d = true then .ok d ρ else .stuck
  | _ => .stuck
def borrowT (f : MM Bool) : MM Bool := fun ρ => match f (seen ρ) with
  | .ok d _ => .ok d ρ
  | _ => .stuck
theorem scal_dq {K : Fg} {G G' : Wd} {v : V} {d : D} (h : Dq K G v d) (s : scal d = true) : Dq K G' v d := by
  cases h with
  | non => exact .non
  | bl b => exact .bl b
  | int i => exact .int i
  | str x => exact .str x
  | _ => cases s
section
variable {X : Cx} {T : Tb} {c : Gh} {W : WX} {a b e : Expr} {f f1 f2 f3 : MM D} {pos p : Pos}
theorem me_borrow (h : ∀ c, PE X e (mE X.K T c W0 f)) : PE X e (mE X.K T c W (borrow f)) := by
  refine ⟨fun pins s σ H Q I ⟨G, ρ, j, p⟩ => ?_⟩
  refine (h ⟨H, withOwn G H (owns σ ρ), [], c.da, false, c.lk⟩).run pins s σ H Q I ⟨_, _, j.seen, ?_⟩
  unfold borrow at p
  cases z : f (seen ρ) with
  | ok d ρ2 =>
    rw [z] at p
    by_cases sc : scal d = true
    · simp only [sc, if_true] at p
      exact fun v G' H' l j' dv => p v G H' (Le.refl G) (j.unseen j') (scal_dq dv sc)
    · simp only [sc] at p; exact p.elim
  | exn y ρ2 => rw [z] at p; exact p.elim
  | stuck => rw [z] at p; exact p.elim
def newS (i : Nat) (s : S) : MM Fl := fun ρ => if i + 1 < ρ.length then .ok .nx (ρ.set i (some s)) else .stuck
/-- {} as data -/
theorem me_dnew : PE X (.Dict [] [] pos) (mE X.K T c W (MM.pure (.dict []))) :=
  pe_mono (pe_lockV pe_dnewK) fun σ H Q ⟨G, ρ, j, p⟩ => fun q hq => LockQ.new trivial fun od => p _ _ _ (Le.upd (j.fresh hq)) (j.grow hq) (.dic ⟨_, upd_same⟩ .nil)
/-- x.append(e) -/
def appS (i : Nat) (f : MM D) : MM Fl := fun ρ => match ρ[i]? with
  | some (some (.ol _)) => MM.bind f (fun d ρ' => match ρ'[i]? with
    | some (some (.ol xs)) => if xs.length < sizeLine then .ok .nx (ρ'.set i (some (.ol (xs ++ [d])))) else .stuck
    | _ => .stuck) ρ
  | _ => .stuck
theorem ms_append {i : Nat} {x : Str} {xp apos cpos : Pos} (hN : X.N[i]? = some x) (hv : Vis X.env.scope x) (he : PE X e (mE X.K T c W f)) (hd : (x == ("__debug__" : Str)) = false := by decide) (hcd : (x == ("__classdict__" : Str)) = false := by decide)
    (hbase : attributeBase (.Name x xp) "append" X.env (eval (.Name x xp) X.env) = eval (.Name x xp) X.env := by rfl)
    (hfew : ((backTo cpos (starEach [e] X.env)).all (fun x => !x.1) && (backToKw cpos (keywordEach [] X.env)).all (fun x => x.1.isSome)
      && decide ([e].length + ([] : List Keyword).length + (if ([] : List Keyword).isEmpty then 0 else 1) < 30)) = true := by rfl)
    (hline : (apos.endLine == cpos.line) = true := by rfl) (hs : starEach [e] X.env = (false, eval e X.env) :: starEach [] X.env := by rfl) (hplain : (backTo cpos (starEach [] X.env)).any (·.1) = false := by rfl)
    (hsw : swapsWith (.Call (.Attribute (.Name x xp) "append" apos) [e] [] cpos) none pos.line X.env = pure false := by rfl) :
    PS X (.Expr (.Call (.Attribute (.Name x xp) "append" apos) [e] [] cpos) pos) (mS X.K T c W (appS i f)) := by
  refine ps_mono (ps_expr (pe_bm PySem.F.plainAttrs_list PySem.F.slot_list_append PySem.F.type_list_append mt_append (pe_var (i := i) (pos := xp) hN hv hd hcd) (pa_cons he pa_nil hs) hbase hfew hline hs hplain) hsw) fun Dn σ H ⟨G, ρ, j, p⟩ => ?_
  unfold appS at p
  split at p
  · rename_i xs hx
    obtain ⟨v, e1, al, vs, rfl, g, hh, r⟩ := j.sl i _ hx
    refine ⟨_, e1, .inl ⟨rfl, _, SqL.of hh⟩, ?_⟩
    refine pS_bind j p fun d w ρ1 G1 H1 l1 j1 r1 p1 => ?_
    split at p1
    · rename_i ys hy
      by_cases hz : ys.length < sizeLine
      · rw [if_pos hz] at p1
        obtain ⟨v2, e2, bl, ws, rfl, g2, hh2, r2⟩ := j1.sl i _ hy
        rw [e1] at e2
        cases e2
        exact ⟨_, ws, w, rfl, rfl, hh2, by rw [r2.length]; exact hz, p1 σ G1 _ (Le.refl G1) (j1.upOwn hy rfl e1 rfl ⟨_, _, rfl, g2, upd_same, r2.app (.one r1)⟩)⟩
      · rw [if_neg hz] at p1; exact p1.elim
    · exact p1.elim
  · exact p.elim
/-- x[k] = v, x an owned dict -/
def putS (i : Nat) (fv fk : MM D) : MM Fl := MM.bind fv fun v => fun ρ => match ρ[i]? with
  | some (some (.od _)) => MM.bind fk (fun k ρ' => match ρ'[i]?, keyOf k with
    | some (some (.od kvs)), some _ => if kvs.length < sizeLine then .ok .nx (ρ'.set i (some (.od (putD kvs k v)))) else .stuck
    | _, _ => .stuck) ρ
  | _ => .stuck
theorem ms_put {i : Nat} {x : Str} {xp pos' : Pos} {value : Expr} {fv fk : MM D} (hu : X.A.units + 1 < cLine) (hN : X.N[i]? = some x) (hv : Vis X.env.scope x) (hk : PE X e (mE X.K T c W fk)) (he : PE X value (mE X.K T c W fv)) (hs : swapsWith value (some (.Subscript (.Name x xp) e pos')) pos.line X.env = pure false := by rfl)
    (hd : (x == ("__debug__" : Str)) = false := by decide) (hcd : (x == ("__classdict__" : Str)) = false := by decide) : PS X (.Assign [.Subscript (.Name x xp) e pos'] value pos) (mS X.K T c W (putS i fv fk)) := by
  refine ps_mono (ps_dput hu (pe_var (i := i) (pos := xp) hN hv hd hcd) hk he hs) fun Dn σ H ⟨G, ρ, j, p⟩ => ?_
  refine pS_bind j p fun d w ρ1 G1 H1 l1 j1 r1 p1 => ?_
  split at p1
  · rename_i kvs hx
    obtain ⟨v, e1, al, vs, rfl, g, hh, r⟩ := j1.sl i _ hx
    refine ⟨_, e1, ?_⟩
    refine pS_bind j1 p1 fun k y ρ2 G2 H2 l2 j2 r2 p2 => ?_
    split at p2
    · rename_i kvs2 key hy hkey
      by_cases hz : kvs2.length < sizeLine
      · rw [if_pos hz] at p2
        obtain ⟨v2, e2, bl, ws, rfl, g2, hh2, r3⟩ := j2.sl i _ hy
        rw [e1] at e2
        cases e2
        have ek := keyOf_keyD hkey
        subst ek
        have ev := dq_key r2
        subst ev
        exact ⟨_, _, rfl, DPut.k hh2 (by rw [r3.length]; exact hz), p2 σ G2 _ (Le.refl G2) (j2.upOwn hy rfl e1 rfl ⟨_, _, rfl, g2, upd_same, r3.put (r1.le l2)⟩)⟩
      · rw [if_neg hz] at p2; exact p2.elim
    · exact p2.elim
  · exact p1.elim
/-- from now on it stands still -/
def frzS (i : Nat) (ρ : MSt) : MSt := match ρ[i]? with
  | some (some (.ol xs)) => ρ.set i (some (.d (.list xs)))
  | some (some (.od kvs)) => ρ.set i (some (.d (.dict kvs)))
  | _ => ρ
theorem set_same_val {σ : St} {i : Nat} {v : V} (h : σ[i]? = some (some v)) : σ.set i (some v) = σ := by
  apply List.ext_getElem?
  intro k
  by_cases z : k = i
  · subst z; rw [List.getElem?_set_self (List.getElem?_eq_some_iff.mp h).1, h]
  · rw [List.getElem?_set_ne (Ne.symm z)]
theorem J.frz1 {K : Fg} {G : Wd} {H : Hp} {σ : St} {ρ : MSt} (j : J K T c G H σ ρ) (i : Nat) : (∃ G', Le G G' ∧ J K T c G' H σ (frzS i ρ)) ∨ ∃ d kvs, H d = some (.dK kvs) ∧ ∀ od, ∃ G', Le G G' ∧ J K T c G' (upd H d (.frz od (.dK kvs))) σ (frzS i ρ) := by
  have key : ∀ {s : S} {a : Addr} {o o' : HO} {d : D}, ρ[i]? = some (some s) → s.own = true → σ[i]? = some (some (.ref a)) → G a = none → H a = some o → (∀ ps, o ≠ .tbl ps) → (∀ x q, o ≠ LamX.CodeO x q) → (∀ x, o ≠ .own x) → (∀ ps, o' ≠ .tbl ps) → (∀ x, o' ≠ .own x) → (Le G (wupd G a o') → Dq K (wupd G a o') (.ref a) d) → Le G (wupd G a o') ∧ J K T c (wupd G a o') (upd H a o') σ (ρ.set i (some (.d d))) := fun {s a o o' d} e ho hv g hh t1 t2 t3 nt nw hd => by
    have nm : a ∉ G.m := fun m => j.mj.ow a m (mem_owns.mpr ⟨i, s, e, ho, hv⟩)
    have hn : i < σ.length := (List.getElem?_eq_some_iff.mp hv).1
    have hi : i < ρ.length := (List.getElem?_eq_some_iff.mp e).1
    have no : a ∉ owns (σ.set i none) (ρ.set i none) := fun m => by
      obtain ⟨k, t, f1, f2, f3⟩ := mem_owns.mp m
      have z : k ≠ i := fun z => by
        subst z
        rw [List.getElem?_set_self hi] at f1; cases f1
      rw [List.getElem?_set_ne (Ne.symm z)] at f1 f3
      exact j.ap i k s t a a e f1 ho f2 hv f3 (Ne.symm z) rfl
    have jw := (j.drop1 i).write (o' := o') g hh t1 t2 (j.ow i s a e ho hv) no nm t3
    have js := (jw.still g upd_same (j.ow i s a e ho hv) no nm nt nw).set (i := i) (v := .ref a) (d := d) (by have := j.len; simp; omega) (hd (Le.upd g))
    rw [List.set_set, List.set_set, set_same_val hv] at js
    exact ⟨Le.upd g, js⟩
  have self : ∀ {a : Addr} {o : HO}, H a = some o → upd H a o = H := fun {a o} e => by
    funext b
    by_cases z : b = a
    · subst z; rw [upd_same, e]
    · rw [upd_ne z]
  unfold frzS
  split
  · rename_i xs hx
    obtain ⟨v, e1, a, vs, rfl, g, hh, r⟩ := j.sl i _ hx
    have q := key (o' := .lst vs) (d := .list xs) hx rfl e1 g hh (fun _ z => by cases z) (fun _ _ z => by unfold LamX.CodeO at z; cases z) (fun _ z => by cases z) (fun _ z => by cases z) (fun _ z => by cases z) fun l => .lst (.inl upd_same) (r.le l)
    rw [self hh] at q
    exact .inl ⟨_, q⟩
  · rename_i xs hx
    obtain ⟨v, e1, a, vs, rfl, g, hh, r⟩ := j.sl i _ hx
    refine .inr ⟨a, vs, hh, fun od => ⟨_, key (o' := .frz od (.dK vs)) (d := .dict xs) hx rfl e1 g hh (fun _ z => by cases z) (fun _ _ z => by unfold LamX.CodeO at z; cases z) (fun _ z => by cases z) (fun _ z => by cases z) (fun _ z => by cases z) fun l => .dic ⟨_, upd_same⟩ (r.le l)⟩⟩
  · exact .inl ⟨G, Le.refl G, j⟩
theorem ms_freeze {sts : List Stmt} {s : MM Fl} (i : Nat) (h : PSs X sts (mS X.K T c W s)) : PSs X sts (mS X.K T c W (fun ρ => s (frzS i ρ))) := by
  refine ⟨fun pins sh σ H Dn I ⟨G, ρ, j, p⟩ => ?_⟩
  rcases j.frz1 i with ⟨G', l, j'⟩ | ⟨d, kvs, hd, k⟩
  · exact h.run pins sh σ H Dn I ⟨G', _, j', pS.le l p⟩
  · refine (pss_lockV h).run pins sh σ H Dn I ⟨d, _, hd, trivial, fun od => ?_⟩
    obtain ⟨G', l, j'⟩ := k od
    exact ⟨G', _, j', pS.le l p⟩
end
end Mi
set_option Elab.async false
set_option linter.all false
set_option maxRecDepth 100000
set_option maxHeartbeats 4000000
namespace Mi
open PySem L2
section
variable (K : Fg) (T : Tb) (c : Gh) (W : WX)
def pO (σ : St) (G : Wd) (Q : VK) : Out S → Prop
  | .ok s ρ' => ∀ D G' H', Le G G' → J K T c G' H' σ ρ' → s.own = true → RS K c.da G' H' s (.ref D) → (c.H0 D = none ∨ D ∈ c.M) → D ∉ owns σ ρ' ∧ D ∉ G'.m → Q (.ref D) H'
  | .exn e ρ' => ∀ cls dx G' H', Le G G' → J K T c G' H' σ ρ' → IsX K G'.hp e cls dx → W cls dx σ H'
  | .stuck => False
def mO (f : MM S) : TE := fun σ H Q => ∃ G ρ, J K T c G H σ ρ ∧ pO K T c W σ G Q (f ρ)
end
section
variable {X : Cx} {T : Tb} {c : Gh} {W : WX} {a b e : Expr} {f f1 f2 f3 : MM D} {pos p : Pos}
/-- owned, put into a slot -/
theorem J.keep {K : Fg} {G : Wd} {H : Hp} {σ : St} {ρ : MSt} {D : Addr} {s : S} {i : Nat} (j : J K T c G H σ ρ) (hi : i + 1 < ρ.length) (ho : s.own = true) (r : RS K c.da G H s (.ref D)) (h0 : c.H0 D = none ∨ D ∈ c.M) (no : D ∉ owns σ ρ ∧ D ∉ G.m) : J K T c G H (σ.set i (some (.ref D))) (ρ.set i (some s)) :=
  j.setOwn hi r ho h0 (fun m => no.1 (drop_owns m)) no.2
/-- .. or data from now on -/
def asD : S → Res D
  | .ol xs => .ok (.list xs)
  | .od kvs => .ok (.dict kvs)
  | _ => .stuck
theorem me_asD {fo : MM S} (h : PE X e (mO X.K T c W fo)) : PE X e (mE X.K T c W (MM.bind fo fun s => lift (asD s))) := by
  refine ⟨fun pins sh σ H Q I ⟨G, ρ, j, p⟩ => ?_⟩
  have key : ∀ {G : Wd} {H : Hp} {ρ : MSt} {D : Addr} {o o' : HO}, J X.K T c G H σ ρ → G D = none → H D = some o → (∀ ps, o ≠ .tbl ps) → (∀ x q, o ≠ LamX.CodeO x q) → (c.H0 D = none ∨ D ∈ c.M) → D ∉ owns σ ρ ∧ D ∉ G.m → (∀ x, o ≠ .own x) → (∀ ps, o' ≠ .tbl ps) → (∀ x, o' ≠ .own x) → J X.K T c (wupd G D o') (upd H D o') σ ρ := fun j g hh t1 t2 h0 no t3 nt nw => (j.write g hh t1 t2 h0 no.1 no.2 t3).still g upd_same h0 no.1 no.2 nt nw
  have q : mO X.K T c W fo σ H (fun v H1 => Q v H1 ∨ LockQ Q v H1) := by
    refine ⟨G, ρ, j, ?_⟩
    unfold MM.bind at p
    cases z : fo ρ with
    | ok s ρ1 =>
      rw [z] at p
      intro D G1 H1 l1 j1 ho r h0 no
      cases s with
      | ol xs =>
        obtain ⟨a, vs, e1, g, hh, r⟩ := r
        cases e1
        have js := j1.still g hh h0 no.1 no.2
        exact .inl (p _ _ _ (l1.trans (Le.upd g)) js (.lst (.inl upd_same) (r.le (Le.upd g))))
      | od xs =>
        obtain ⟨a, vs, e1, g, hh, r⟩ := r
        cases e1
        exact .inr ⟨D, _, rfl, hh, trivial, fun od => p _ _ _ (l1.trans (Le.upd g)) (key j1 g hh (fun _ z => by cases z) (fun _ _ z => by unfold LamX.CodeO at z; cases z) h0 no (fun _ z => by cases z) (fun _ z => by cases z) (fun _ z => by cases z)) (.dic ⟨_, upd_same⟩ (r.le (Le.upd g)))⟩
      | dc xs => exact p.elim
      | d xs => exact p.elim
      | sto b μ => exact p.elim
    | exn y ρ1 => rw [z] at p; exact p
    | stuck => rw [z] at p; exact p.elim
  refine thn (h.run pins sh σ H _ I q) fun v s1 ⟨x, H1, I1, r1, q1⟩ => ?_
  rcases q1 with q1 | ⟨d, u, e1, hd, mu, k⟩
  · exact ⟨x, H1, I1, r1, q1⟩
  · obtain ⟨od, I2⟩ := I1.lock hd mu
    exact ⟨x, _, I2, r1, k od⟩
def newO (fo : MM S) (i : Nat) : MM Fl := MM.bind fo fun s => newS i s
theorem newO_to {fo : MM S} {i : Nat} (Dn : Ends) (σ : St) (H : Hp) (h : mS X.K T c W (newO fo i) Dn σ H) : tAsg (mO X.K T c W fo) (gName i) Dn σ H := by
  obtain ⟨G, ρ, j, p⟩ := h
  refine ⟨G, ρ, j, ?_⟩
  unfold newO MM.bind at p
  cases z : fo ρ with
  | ok s ρ1 =>
    rw [z] at p
    intro D G1 H1 l1 j1 ho r h0 no
    have p2 : pS X.K T c W Dn G (newS i s ρ1) := p
    unfold newS at p2
    by_cases hl : i + 1 < ρ1.length
    · rw [if_pos hl] at p2
      exact p2 _ G1 H1 l1 (j1.keep hl ho r h0 no)
    · rw [if_neg hl] at p2; exact p2.elim
  | exn y ρ1 => rw [z] at p; exact fun cls dx G' H' l j' i => p cls dx σ G' H' l j' i
  | stuck => rw [z] at p; exact p.elim
theorem ms_newO {i : Nat} {x : Str} {pos' : Pos} {fo : MM S} (hN : X.N.Nodup) (hi : X.N[i]? = some x) (hx : Loc X.env.scope x) (he : PE X e (mO X.K T c W fo)) (hs : swapsWith e (some (.Name x pos')) pos.line X.env = pure false := by rfl) (hf : X.fn x = true ∨ X.env.scope.names.lookup x = some .local := by first | exact .inl rfl | exact .inr rfl | assumption) :
    PS X (.Assign [.Name x pos'] e pos) (mS X.K T c W (newO fo i)) := ps_mono (ps_set (pos' := pos') hN hi hx he hs hf) newO_to
end
def compK (os : List Nat) (g : D → MSt → Option MSt) (t : MM Bool) (ek ev : MM D) : List D → List (D × D) → MM (List (D × D))
  | [], acc => MM.pure acc
  | x :: xs, acc => fun ρ => match g x (wipeM ρ os) with
    | none => .stuck
    | some ρ1 => match t ρ1 with
      | .ok true ρ2 => match ek ρ2 with
        | .ok k ρ3 => match ev ρ3 with
          | .ok y ρ4 => if acc.length < sizeLine ∧ (keyOf k).isSome = true then compK os g t ek ev xs (putD acc k y) ρ4 else .stuck
          | _ => .stuck
        | _ => .stuck
      | .ok false ρ2 => compK os g t ek ev xs acc ρ2
      | _ => .stuck
def compO (os : List Nat) (g : D → MSt → Option MSt) (t : MM Bool) (ek ev : MM D) (xs : List D) : MM S := fun ρ => match compK os g t ek ev xs [] ρ with
  | .ok ys ρe => .ok (.od ys) (restore os ρ ρe)
  | _ => .stuck
theorem restore_owns {os : List Nat} {ρ1 ρe : MSt} {σ : St} {D : Addr} (h : D ∈ owns σ (restore os ρ1 ρe)) : D ∈ owns (wipe σ os) (wipeM ρe os) := by
  obtain ⟨k, s, e1, e2, e3⟩ := mem_owns.mp h
  rcases restore_at e1 with ⟨z, x, rfl, q⟩ | ⟨z, q⟩
  · cases e2
  · exact mem_owns.mpr ⟨k, s, by rw [wipeM_out z]; exact q, e2, by rw [wipe_out z]; exact e3⟩
section
variable {X : Cx} {T : Tb} {c : Gh} {W : WX} {elt kx vx tg iter : Expr} {ifs : List Expr} {scope : Scope} {own : List (Str × Nat)} {pos spos : Pos} {fi : MM (List D)} {rel : Wd → V → D → Prop} {g : D → MSt → Option MSt} {t : MM Bool} {e ek ev : MM D} {os : List Nat}
theorem dc_to (σ : St) (H : Hp) (Q : VK) (h : mO X.K T c W (MM.bind fi (compO os g t ek ev)) σ H Q) : tDc (mI X.K T c W rel fi) (xG X.K T rel os g) (xT X.K T t) (xE X.K T ek) (xE X.K T ev) os σ H Q := by
  obtain ⟨G, ρ, j, p⟩ := h
  refine ⟨G, ρ, j, ?_⟩
  unfold MM.bind at p
  cases zf : fi ρ with
  | exn y ρ1 => rw [zf] at p; exact p
  | stuck => rw [zf] at p; exact p.elim
  | ok xs ρ1 =>
  rw [zf] at p
  intro Jt G1 H1 l1 j1 r1
  intro D hD1
  have h0 : c.H0 D = none ∨ D ∈ c.M := j1.H0none hD1
  have pc0 : (match compK os g t ek ev xs [] ρ1 with | .ok ys ρe => pO X.K T c W σ G1 Q (.ok (.od ys) (restore os ρ1 ρe)) | _ => False) := by
    have p2 : pO X.K T c W σ G Q (compO os g t ek ev xs ρ1) := p
    unfold compO at p2
    cases q : compK os g t ek ev xs [] ρ1 with
    | ok ys ρe => rw [q] at p2; exact fun D G' H' l => p2 D G' H' (l1.trans l)
    | exn y ρe => rw [q] at p2; exact p2.elim
    | stuck => rw [q] at p2; exact p2.elim
  refine ⟨fun i m H => m = xs.length - i ∧ i ≤ xs.length ∧ ∃ G ρb vs acc, Le G1 G ∧ J X.K T c G H (wipe σ os) (wipeM ρb os) ∧ H D = some (.dK vs) ∧ G D = none ∧ DqKV X.K G vs acc ∧ (D ∉ owns (wipe σ os) (wipeM ρb os) ∧ D ∉ G.m) ∧
      (match compK os g t ek ev (xs.drop i) acc ρb with | .ok ys ρe => pO X.K T c W σ G1 Q (.ok (.od ys) (restore os ρ1 ρe)) | _ => False),
    ⟨xs.length, by simp, Nat.zero_le _, G1, ρ1, [], [], Le.refl G1, (j1.wipe os).aside hD1, upd_same, j1.fresh hD1, .nil, ⟨(j1.wipe os).notOwn hD1, j1.freshM hD1⟩, by simpa using pc0⟩, ?_⟩
  rintro i m H2 ⟨rfl, hi, G2, ρb, vs, acc, l2, j2, hD, hGD, dqa, no, pc⟩
  by_cases hlt : i < xs.length
  · refine .inr ⟨r1.go i G2 H2 l2 j2.sub j2.frm hlt, fun H => ∃ G ρb vs acc, Le G1 G ∧ J X.K T c G H (wipe σ os) (wipeM ρb os) ∧ H D = some (.dK vs) ∧ G D = none ∧ DqKV X.K G vs acc ∧ (D ∉ owns (wipe σ os) (wipeM ρb os) ∧ D ∉ G.m) ∧
        (match compK os g t ek ev (xs.drop (i + 1)) acc ρb with | .ok ys ρe => pO X.K T c W σ G1 Q (.ok (.od ys) (restore os ρ1 ρe)) | _ => False),
      fun H' q => ⟨xs.length - (i + 1), by omega, rfl, hlt, q⟩, fun x H3 y => ?_⟩
    obtain ⟨d, hd, q⟩ := r1.yld i G2 H2 x H3 l2 j2.sub j2.frm hlt y
    obtain ⟨G3, l3, j3, dq, hD3, hGD3, nm3⟩ : ∃ G3, Le G2 G3 ∧ J X.K T c G3 H3 (wipe σ os) (wipeM ρb os) ∧ rel G3 x d ∧ H3 D = some (.dK vs) ∧ G3 D = none ∧ D ∉ G3.m := by
      rcases q with ⟨rfl, dq⟩ | ⟨p, o, hn, nt, rfl, dq⟩
      · exact ⟨G2, Le.refl _, j2, dq, hD, hGD, no.2⟩
      · exact ⟨_, Le.upd (j2.fresh hn), j2.grow hn nt, dq, upd_here hD hn, by show upd G2.hp p o D = none; rw [upd_ne (ne_of_none hD hn)]; exact hGD, no.2⟩
    rw [drop_cons hd] at pc
    unfold compK at pc
    cases eg : g d (wipeM ρb os) with
    | none => simp only [eg] at pc
    | some ρ2 =>
      simp only [eg] at pc
      refine ⟨here c G3 H3 (wipe σ os) (wipeM ρb os), G3, wipeM ρb os, d, j3.here, dq, ?_⟩
      rw [eg]
      intro σ' G4 H4 hw l4 j4
      have hw' : wipe σ' os = wipe σ os := by rw [hw, wipe_wipe]
      refine ⟨hw', here c G3 H3 (wipe σ os) (wipeM ρb os), G4, ρ2, j4, ?_⟩
      have fin : ∀ {G5 : Wd} {H5 : Hp} {ρ5 : MSt}, J X.K T (here c G3 H3 (wipe σ os) (wipeM ρb os)) G5 H5 σ' ρ5 → J X.K T c G5 H5 (wipe σ os) (wipeM ρ5 os) ∧ H5 D = some (.dK vs) ∧ G5 D = none ∧ D ∉ owns (wipe σ os) (wipeM ρ5 os) ∧ D ∉ G5.m := fun {G5 H5 ρ5} j5 => by
        have jw := j5.wipe os
        rw [hw'] at jw
        have nh := not_here (c := c) (H := H3) (G := G3) (σ := wipe σ os) (ρ := wipeM ρb os) ⟨no.1, nm3⟩
        have h3 : (here c G3 H3 (wipe σ os) (wipeM ρb os)).H0 D ≠ none := by show H3 D ≠ none; rw [hD3]; exact fun z => by cases z
        exact ⟨j3.back jw, j5.fr D _ hD3 nh (fun _ z => by cases z), j5.gn D hGD3 h3 nh, jw.apart h3 nh nm3⟩
      cases et : t ρ2 with
      | ok b ρ3 =>
        simp only [et] at pc
        intro b' G5 H5 l5 j5 rb
        cases rb
        cases b with
        | true =>
          rw [if_pos rfl]
          refine ⟨here c G3 H3 (wipe σ os) (wipeM ρb os), G5, ρ3, j5, ?_⟩
          cases ee : ek ρ3 with
          | ok y ρ4 =>
            simp only [ee] at pc
            intro v G6 H6 l6 j6 dv
            refine ⟨here c G3 H3 (wipe σ os) (wipeM ρb os), G6, ρ4, j6, ?_⟩
            cases ev' : ev ρ4 with
            | ok yv ρ5 =>
              simp only [ev'] at pc
              intro u G7 H7 l7 j7 du
              obtain ⟨f1, f2, f3, f4⟩ := fin j7
              by_cases hz : acc.length < sizeLine ∧ (keyOf y).isSome = true
              · rw [if_pos hz] at pc
                obtain ⟨k, hk⟩ := Option.isSome_iff_exists.mp hz.2
                have ek := keyOf_keyD hk
                subst ek
                have evv := dq_key dv
                subst evv
                have l : Le G2 G7 := (((l3.trans l4).trans l5).trans l6).trans l7
                refine ⟨vs, k, rfl, f2, by rw [dqa.length]; exact hz.1, G7, ρ5, putK vs k u, putD acc (keyD k) yv, l2.trans l, f1.write f3 f2 (fun _ z => by cases z) (fun _ _ z => by unfold LamX.CodeO at z; cases z) h0 f4.1 f4.2, upd_same, f3, (dqa.le l).put du, f4, pc⟩
              · rw [if_neg hz] at pc
                exact pc.elim
            | exn y ρ4 => simp only [ev'] at pc
            | stuck => simp only [ev'] at pc
          | exn y ρ4 => simp only [ee] at pc
          | stuck => simp only [ee] at pc
        | false =>
          rw [if_neg Bool.false_ne_true]
          obtain ⟨f1, f2, f3, f4⟩ := fin j5
          have l : Le G2 G5 := (l3.trans l4).trans l5
          exact ⟨G5, ρ3, vs, acc, l2.trans l, f1, f2, f3, dqa.le l, f4, pc⟩
      | exn y ρ3 => simp only [et] at pc
      | stuck => simp only [et] at pc
  · have ei : i = xs.length := by omega
    subst ei
    rw [List.drop_length] at pc
    refine .inl ⟨r1.stop G2 H2 l2 j2.sub j2.frm, ?_⟩
    exact pc D G2 H2 l2 (j1.restore l2 j2) rfl ⟨D, vs, rfl, hGD, hD, dqa⟩ h0 ⟨fun m => no.1 (restore_owns m), no.2⟩
theorem mo_dc (hc : X.calm = true) (hN : X.N.Nodup) (hi : PI X tg iter (mI X.K T c W rel fi)) (ok : BlkOk X.N X.env.scope scope own) (ho : own.map (·.2) = os)
    (hg : ∀ (c : Gh) (s : Shared) (H : Hp) (C : Addr) (cl : List (Str × Addr)) (fp : List Addr), PG (X.blk s H scope (compEnvC scope cl C X.env) fp) tg (mG X.K T c rel os g)) (ht : ∀ (c : Gh) (s : Shared) (H : Hp) (C : Addr) (cl : List (Str × Addr)) (fp : List Addr), PTs (X.blk s H scope (compEnvC scope cl C X.env) fp) ifs (mT X.K T c W0 t))
    (hk : ∀ (c : Gh) (s : Shared) (H : Hp) (C : Addr) (cl : List (Str × Addr)) (fp : List Addr), PE (X.blk s H scope (compEnvC scope cl C X.env) fp) kx (mE X.K T c W0 ek))
    (he : ∀ (c : Gh) (s : Shared) (H : Hp) (C : Addr) (cl : List (Str × Addr)) (fp : List Addr), PE (X.blk s H scope (compEnvC scope cl C X.env) fp) vx (mE X.K T c W0 ev)) (hs : ∀ x, foldedSetIterable iter X.env x = pure x := by intro _; rfl) :
    PE X (.DictComp kx vx [⟨tg, iter, ifs, 0⟩] scope pos) (mO X.K T c W (MM.bind fi (compO os g t ek ev))) := by
  subst ho
  exact pe_mono (pe_dc hc hN hi ok (fun s H C cl fp => pg_ex fun c => hg c s H C cl fp) (fun s H C cl fp => pts_ex fun c => ht c s H C cl fp) (fun s H C cl fp => pe_ex fun c => hk c s H C cl fp) (fun s H C cl fp => pe_ex fun c => he c s H C cl fp) hs) dc_to
end
end Mi
set_option Elab.async false
set_option linter.all false
set_option maxRecDepth 100000
set_option maxHeartbeats 4000000
namespace Mi
open PySem L2
def keysD : List (D × D) → List D := List.map (·.1)
theorem dqkv_at {K : Fg} {G : Wd} : ∀ {kvs : List (Key × V)} {ds : List (D × D)}, DqKV K G kvs ds → ∀ {i : Nat} {k : Key} {v : V}, kvs[i]? = some (k, v) → ∃ d, ds[i]? = some (keyD k, d) ∧ Dq K G v d
  | _, _, .nil, i, k, v, e => by simp at e
  | _, _, .cons h t, 0, k, v, e => by simp at e; obtain ⟨rfl, rfl⟩ := e; exact ⟨_, rfl, h⟩
  | _, _, .cons h t, i + 1, k, v, e => by
    obtain ⟨d, h1, h2⟩ := dqkv_at t (i := i) (k := k) (v := v) (by simpa using e)
    exact ⟨d, by simpa using h1, h2⟩
theorem dq_kV {K : Fg} {G : Wd} (k : Key) : Dq K G (kV k) (keyD k) := by
  cases k with
  | inl i => exact .int i
  | inr s => exact .str s
theorem gives_keys {K : Fg} {c : Gh} {G : Wd} {a : Addr} {o : Obj} {kvs : List (Key × V)} {ds : List (D × D)} (hq : G a = some (.frz o (.dK kvs))) (hr : DqKV K G kvs ds) : Gives (relD K) (Itk a o kvs) c G (keysD ds) where
  go := fun i G1 H l1 l2 _ hi => ⟨l2 _ _ (l1.h _ _ hq), by rw [hr.length]; simpa [keysD] using hi⟩
  stop := fun G1 H l1 l2 _ => ⟨l2 _ _ (l1.h _ _ hq), by rw [hr.length]; simp [keysD]⟩
  yld := fun i G1 H x H' l1 l2 _ hi y => by
    obtain ⟨e, k, v, hk, rfl⟩ := y
    obtain ⟨d, e1, e2⟩ := dqkv_at hr hk
    refine ⟨keyD k, ?_, .inl ⟨e, dq_kV k⟩⟩
    unfold keysD
    rw [List.getElem?_map, e1]
    rfl
section
variable {X : Cx} {T : Tb} {c : Gh} {W : WX} {a b e tg iter value : Expr} {f f1 f2 f3 : MM D} {pos p : Pos}
def ownD (i : Nat) (g : List (D × D) → MM D) : MM D := fun ρ => match ρ[i]? with
  | some (some (.od kvs)) => g kvs ρ
  | _ => .stuck
/-- x[k] -/
def oixE (i : Nat) (f : MM D) : MM D := fun ρ => match ρ[i]? with
  | some (some (.od _)) => MM.bind f (fun k => ownD i fun kvs => match keyOf k, valAt kvs k with
    | some _, some d => MM.pure d
    | _, _ => stuck) ρ
  | _ => .stuck
def ogetE (i : Nat) (f f3 : MM D) : MM D := fun ρ => match ρ[i]? with
  | some (some (.od _)) => MM.bind f (fun k => MM.bind f3 fun z => ownD i fun kvs => match keyOf k with
    | some _ => MM.pure ((valAt kvs k).getD z)
    | _ => stuck) ρ
  | _ => .stuck
def oinE (i : Nat) (pos : Bool) (f : MM D) : MM D := MM.bind f fun k => ownD i fun kvs => match keyOf k with
  | some _ => MM.pure (.bool (if pos then hasKey k kvs else !hasKey k kvs))
  | _ => stuck
theorem own_at {K : Fg} {G : Wd} {H : Hp} {σ : St} {ρ : MSt} {i : Nat} {kvs : List (D × D)} (j : J K T c G H σ ρ) (h : ρ[i]? = some (some (.od kvs))) : ∃ a es, σ[i]? = some (some (.ref a)) ∧ H a = some (.dK es) ∧ DqKV K G es kvs := by
  obtain ⟨v, e1, a, es, rfl, g, hh, r⟩ := j.sl i _ h
  exact ⟨a, es, e1, hh, r⟩
theorem me_oix {i : Nat} {x : Str} {xp : Pos} (hu : X.A.units + 1 < cLine) (hN : X.N[i]? = some x) (hv : Vis X.env.scope x) (he : PE X e (mE X.K T c W f)) (hs : NoSl e) (hd : (x == ("__debug__" : Str)) = false := by decide) (hcd : (x == ("__classdict__" : Str)) = false := by decide) :
    PE X (.Subscript (.Name x xp) e pos) (mE X.K T c W (oixE i f)) := by
  refine pe_mono (pe_dget hu (pe_var (i := i) (pos := xp) hN hv hd hcd) he hs) fun σ H Q ⟨G, ρ, j, p⟩ => ?_
  unfold oixE at p
  split at p
  · rename_i kvs0 hx
    obtain ⟨a, es, e1, hh, r⟩ := own_at j hx
    refine ⟨_, e1, ?_⟩
    refine pX_bind j p fun k y ρ1 G1 H1 l1 j1 r1 p1 => ?_
    unfold ownD at p1
    split at p1
    · rename_i kvs hy
      obtain ⟨a2, es2, e2, hh2, r2⟩ := own_at j1 hy
      rw [e1] at e2
      cases e2
      cases hk : keyOf k with
      | none => simp only [hk] at p1; exact p1.elim
      | some key =>
        cases hval : valAt kvs k with
        | none => simp only [hk, hval] at p1; exact p1.elim
        | some d =>
          simp only [hk, hval] at p1
          have ek := keyOf_keyD hk
          subst ek
          have ev := dq_key r1
          subst ev
          rcases dqkv_val (k := key) r2 with ⟨q1, q2⟩ | ⟨v, d', q1, q2, q3⟩
          · rw [q2] at hval; cases hval
          · rw [q2] at hval
            cases hval
            exact ⟨_, v, rfl, .inl ⟨_, key, .inl hh2, rfl, q1.symm⟩, p1.here j1 q3⟩
    · exact p1.elim
  · exact p.elim
end
structure KeptO (T : Tb) (a : Addr) (G : Wd) (H : Hp) (G' : Wd) (H' : Hp) : Prop where
  g : Le G G'
  s : Lh G' H'
  n : ∀ b, G b = none → H b ≠ none → b ≠ a → G' b = none
  k : ∀ b o, H b = some o → b ≠ a → (∀ ps, o ≠ .tbl ps) → H' b = some o
  t : ∀ b ps, H b = some (.tbl ps) → ∃ ps', H' b = some (.tbl ps')
  tb : TabsC T H'
  nt : ∀ b ps, G' b ≠ some (.tbl ps)
  m : G'.m = G.m
def spO (K : Fg) (T : Tb) (f : List D → List D → Res (D × List D)) : Sp := fun vs H Q E => ∃ G a ws xs us ds, vs = .ref a :: us ∧ Lh G H ∧ (∀ b ps, G b ≠ some (.tbl ps)) ∧ TabsC T H ∧ ((∀ a ∈ G.m, ∃ o, H a = some o) ∧ a ∉ G.m) ∧ G a = none ∧ H a = some (.lst ws) ∧ DqAll K G ws xs ∧ DqAll K G us ds ∧ match f xs ds with
  | .ok (d, xs') => ∀ v ws' G' H', KeptO T a G H G' H' → G' a = none → H' a = some (.lst ws') → DqAll K G' ws' xs' → Dq K G' v d → Q v H'
  | _ => False
def startO (n : Nat) (xs : List D) (ds : List D) : MSt := some (.dc xs) :: (ds.map (fun d => some (S.d d)) ++ List.replicate (n - ds.length) none)
def diceOf (ρ : MSt) : Option (List D) := match ρ with
  | some (.dc xs) :: _ => some xs
  | _ => none
def endO : Out Fl → Res (D × List D)
  | .ok (.rt d) ρ => match diceOf ρ with
    | some xs => .ok (d, xs)
    | none => .stuck
  | .ok .nx ρ => match diceOf ρ with
    | some xs => .ok (.none, xs)
    | none => .stuck
  | _ => .stuck
def runO (n m : Nat) (b : MM Fl) : List D → List D → Res (D × List D) := fun xs ds => if ds.length + 1 = m then endO (b (startO n xs ds)) else .stuck
theorem J.entryO {K : Fg} {T : Tb} {G : Wd} {H : Hp} {a : Addr} {ws us : List V} {xs ds : List D} {N : List Str} (l : Lh G H) (nt : ∀ b ps, G b ≠ some (.tbl ps)) (tb : TabsC T H) (hm : (∀ a ∈ G.m, ∃ o, H a = some o) ∧ a ∉ G.m) (g : G a = none) (hh : H a = some (.lst ws)) (dx : DqAll K G ws xs) (dq : DqAll K G us ds) (hn : us.length + 1 ≤ N.length) : J K T ⟨H, G, [a], a, false, []⟩ G H (L2.start N (.ref a :: us)) (startO N.length xs ds) := by
  have hl := dq.length
  have get : ∀ (i : Nat) s, (startO N.length xs ds)[i]? = some (some s) → (i = 0 ∧ s = .dc xs) ∨ ∃ d v, s = .d d ∧ (L2.start N (.ref a :: us))[i]? = some (some v) ∧ Dq K G v d := fun i s e => by
    unfold startO at e
    cases i with
    | zero => simp at e; exact .inl ⟨rfl, e.symm⟩
    | succ i =>
      rw [List.getElem?_cons_succ] at e
      by_cases hi : i < ds.length
      · rw [List.getElem?_append_left (by simpa using hi), List.getElem?_map] at e
        cases q : ds[i]? with
        | none => rw [q] at e; cases e
        | some d =>
          rw [q] at e
          cases e
          obtain ⟨v, h1, h2⟩ := dq.getD q
          refine .inr ⟨d, v, rfl, ?_, h2⟩
          unfold L2.start
          rw [List.map_cons, List.cons_append, List.getElem?_cons_succ, List.getElem?_append_left (by simpa [hl] using hi), List.getElem?_map, h1]
          rfl
      · rw [List.getElem?_append_right (by simpa using hi), List.getElem?_replicate] at e
        split at e <;> cases e
  have at0 : (L2.start N (.ref a :: us))[0]? = some (some (.ref a)) := by unfold L2.start; simp
  refine ⟨l, Le.refl G, fun _ h _ _ => h, fun _ _ e _ _ => e, fun _ ps e => ⟨ps, e⟩, ?_, fun i s e ns => ?_, fun i s b e o e2 => ?_, fun i k s t b b' e1 e2 o1 o2 f1 f2 n => ?_, tb, nt, fun b μ e => ?_, ⟨hm.1, fun b m n => ?_, fun b m => .inl m, fun _ => rfl, (fun _ z => by cases z)⟩⟩
  · unfold startO L2.start
    simp only [List.length_append, List.length_map, List.length_replicate, List.length_cons]
    omega
  · rcases get i s e with ⟨rfl, rfl⟩ | ⟨d, v, rfl, h1, h2⟩
    · exact ⟨.ref a, at0, rfl, a, ws, rfl, g, hh, dx⟩
    · exact ⟨v, h1, h2⟩
  · rcases get i s e with ⟨rfl, rfl⟩ | ⟨d, v, rfl, h1, h2⟩
    · rw [at0] at e2; cases e2; exact .inr (by simp)
    · cases o
  · rcases get i s e1 with ⟨rfl, rfl⟩ | ⟨d, v, rfl, h1, h2⟩
    · rcases get k t e2 with ⟨rfl, rfl⟩ | ⟨d, v, rfl, h1, h2⟩
      · exact absurd rfl n
      · cases o2
    · cases o1
  · rcases get _ _ e with ⟨_, z⟩ | ⟨d, v, z, _⟩ <;> cases z
  · obtain ⟨i, s, e1, e2, e3⟩ := mem_owns.mp n
    rcases get i s e1 with ⟨rfl, rfl⟩ | ⟨d, v, rfl, h1, h2⟩
    · rw [at0] at e3; cases e3; exact hm.2 m
    · cases e2
theorem J.keptO {K : Fg} {T : Tb} {a : Addr} {G G' : Wd} {H H' : Hp} {σ : St} {ρ : MSt} (j : J K T ⟨H, G, [a], a, false, []⟩ G' H' σ ρ) : KeptO T a G H G' H' :=
  ⟨j.g0, j.sub, fun b g h n => j.gn b g h (by simpa using n), fun b o e n t => j.fr b o e (by simpa using n) t, j.ft, j.tb, j.nt, j.mj.nm rfl⟩
theorem diceOf_at {ρ : MSt} {xs : List D} (h : diceOf ρ = some xs) : ρ[0]? = some (some (.dc xs)) := by
  unfold diceOf at h
  split at h
  · cases h; rfl
  · cases h
theorem J.dice {K : Fg} {T : Tb} {c : Gh} {G : Wd} {H : Hp} {σ : St} {ρ : MSt} {i : Nat} {xs : List D} (j : J K T c G H σ ρ) (h : ρ[i]? = some (some (.dc xs))) : σ[i]? = some (some (.ref c.da)) ∧ ∃ ws, G c.da = none ∧ H c.da = some (.lst ws) ∧ DqAll K G ws xs := by
  obtain ⟨v, e1, rfl, a, ws, e2, g, hh, r⟩ := j.sl i _ h
  cases e2
  exact ⟨e1, ws, g, hh, r⟩
section
variable {P : Program} {w : World} {K : Fg} {mg : Str → Option Value} {base : Heap} {T : Tb}
theorem fn_defO {x qual : Str} {st : Stmt} {f : Addr} {fd : FuncData} {N ps : List Str} {k : Nat} {b : MM Fl} (F : Fun K x qual st f fd) (S : FnScope N ps (defScope st))
    (hb : ∀ (cdv : Value), cdv = fd.code → ∀ (A : Around) (outer : List Env) (s : Shared) (H : Hp) (E : XK) (c : Gh), Room k (A.deeper (PyProof.Rows.envOfC qual (defScope st) s.heap.objs.size f cdv)) →
      PSs (cxX P w K mg base N qual (defScope st) f cdv A outer s H E) (defBody st) (mS K T c (fun cls d _ H => E cls d H) b)) :
    FnOk P w K mg base (L2N.CX P w) (k + 1) f fd ps (spO K T (runO N.length ps.length b)) := by
  have hpl : ps.length ≤ N.length := by have := congrArg List.length S.pre; rw [List.length_take] at this; omega
  refine okN F S (fun vs H Q E h => ?_) fun cdv hcd A outer s H vs Q E hr h => ?_
  · obtain ⟨G, a, ws, xs, us, ds, rfl, _, _, _, _, _, _, _, dq, p⟩ := h
    unfold runO at p
    by_cases z : ds.length + 1 = ps.length
    · rw [List.length_cons, dq.length, z]
    · rw [if_neg z] at p; exact p.elim
  · obtain ⟨G, a, ws, xs, us, ds, e, l, nt, tb, hm, g, hh, dx, dq, p⟩ := h
    refine ⟨_, hb cdv hcd A outer s H E ⟨H, G, [a], a, false, []⟩ hr, ?_⟩
    unfold runO at p
    by_cases z : ds.length + 1 = ps.length
    · rw [if_pos z] at p
      rw [e]
      refine ⟨G, startO N.length xs ds, J.entryO l nt tb hm g hh dx dq (by rw [dq.length, z]; exact hpl), ?_⟩
      cases e : b (startO N.length xs ds) with
      | ok fl ρ' =>
        rw [e] at p
        cases fl with
        | nx =>
          intro σ' G' H' l' j'
          unfold endO at p
          cases q : diceOf ρ' with
          | none => simp only [q] at p
          | some ys =>
            simp only [q] at p
            obtain ⟨_, ws', g', hh', r'⟩ := j'.dice (diceOf_at q)
            exact p .non ws' G' H' j'.keptO g' hh' r' .non
        | rt d =>
          intro v σ' G' H' l' j' dv
          unfold endO at p
          cases q : diceOf ρ' with
          | none => simp only [q] at p
          | some ys =>
            simp only [q] at p
            obtain ⟨_, ws', g', hh', r'⟩ := j'.dice (diceOf_at q)
            exact p v ws' G' H' j'.keptO g' hh' r' dv
        | bk => exact p.elim
        | ct => exact p.elim
      | exn y ρ' => rw [e] at p; exact p.elim
      | stuck => rw [e] at p; exact p.elim
    · rw [if_neg z] at p; exact p.elim
end
theorem J.afterO {K : Fg} {T : Tb} {c : Gh} {G G' : Wd} {H H' : Hp} {σ : St} {ρ : MSt} {i : Nat} {xs xs' : List D} {ws' : List V} (j : J K T c G H σ ρ) (hi : ρ[i]? = some (some (.dc xs))) (q : KeptO T c.da G H G' H') (g' : G' c.da = none) (hh' : H' c.da = some (.lst ws')) (r' : DqAll K G' ws' xs') : J K T c G' H' σ (ρ.set i (some (.dc xs'))) := by
  obtain ⟨e0, ws, g, hh, r⟩ := j.dice hi
  have hl : i < ρ.length := (List.getElem?_eq_some_iff.mp hi).1
  have at_ : ∀ {k : Nat} {s : S}, (ρ.set i (some (.dc xs')))[k]? = some (some s) → (k = i ∧ s = .dc xs') ∨ (k ≠ i ∧ ρ[k]? = some (some s)) := fun {k s} e => by
    by_cases z : k = i
    · subst z; rw [List.getElem?_set_self hl] at e; cases e; exact .inl ⟨rfl, rfl⟩
    · rw [List.getElem?_set_ne (Ne.symm z)] at e; exact .inr ⟨z, e⟩
  have old : ∀ {k : Nat} {s : S}, (ρ.set i (some (.dc xs')))[k]? = some (some s) → s.own = true → ∃ t, ρ[k]? = some (some t) ∧ t.own = true := fun {k s} e o => by
    rcases at_ e with ⟨rfl, rfl⟩ | ⟨z, e⟩
    · exact ⟨_, hi, rfl⟩
    · exact ⟨s, e, o⟩
  have da0 : c.H0 c.da = none ∨ c.da ∈ c.M := j.ow i _ _ hi rfl e0
  refine ⟨q.s, j.g0.trans q.g, fun b g0 h0 m => ?_, fun b o e m t => q.k b o (j.fr b o e m t) (fun z => ?_) t, fun b ps e => ?_, by simp [j.len], fun k s e ns => ?_, fun k s b e o e2 => ?_, fun k l s t b d e1 e2 o1 o2 f1 f2 n => ?_, q.tb, q.nt, fun b μ e => ?_, ⟨fun b m => ?_, fun b m n => ?_, fun b m => j.mj.gr b (by rw [← q.m]; exact m), fun h => q.m.trans (j.mj.nm h), j.mj.wf⟩⟩
  · by_cases z : b = c.da
    · rw [z]; exact g'
    · exact q.n b (j.gn b g0 h0 m) (fun y => (j.H0none y).elim h0 m) z
  · rw [z] at e m
    rcases da0 with y | y
    · rw [e] at y; cases y
    · exact m y
  · obtain ⟨ps', h⟩ := j.ft b ps e
    exact q.t b ps' h
  · rcases at_ e with ⟨rfl, rfl⟩ | ⟨z, e⟩
    · exact ⟨_, e0, rfl, c.da, ws', rfl, g', hh', r'⟩
    · obtain ⟨v, e1, rs⟩ := j.sl k s e ns
      refine ⟨v, e1, ?_⟩
      have ne : ∀ {b : Addr}, s.own = true → v = .ref b → b ≠ c.da := fun {b} o ev => by
        subst ev
        exact j.ap k i s _ b c.da e hi o rfl e1 e0 z
      cases s with
      | d x => exact Dq.le rs q.g
      | ol ys =>
        obtain ⟨b, vs, e2, g2, hh2, r2⟩ := rs
        exact ⟨b, vs, e2, q.n b g2 (by rw [hh2]; exact fun z => by cases z) (ne rfl e2), q.k b _ hh2 (ne rfl e2) (fun _ z => by cases z), r2.le q.g⟩
      | od ys =>
        obtain ⟨b, vs, e2, g2, hh2, r2⟩ := rs
        exact ⟨b, vs, e2, q.n b g2 (by rw [hh2]; exact fun z => by cases z) (ne rfl e2), q.k b _ hh2 (ne rfl e2) (fun _ z => by cases z), r2.le q.g⟩
      | dc ys =>
        obtain ⟨ev, _⟩ := rs
        exact absurd rfl (ne rfl ev)
      | sto b μ => cases ns
  · obtain ⟨t, h1, h2⟩ := old e o
    exact j.ow k t b h1 h2 e2
  · obtain ⟨t1, h1, h2⟩ := old e1 o1
    obtain ⟨t2, h3, h4⟩ := old e2 o2
    exact j.ap k l t1 t2 b d h1 h3 h2 h4 f1 f2 n
  · rcases at_ e with ⟨_, z⟩ | ⟨z, e⟩
    · cases z
    · obtain ⟨s1, s3⟩ := j.st b μ e
      have nda : ∀ d, d ∈ G.m → d ≠ c.da := fun d m z => j.mj.ow d m (mem_owns.mpr ⟨i, _, hi, rfl, by rw [z]; exact e0⟩)
      refine ⟨s1.keep q.g q.m (fun d g m h => q.n d g h fun z => ?_) fun d o e z => q.k d o e (fun y => ?_) fun ps y => ?_, s3.eqm q.m⟩
      · rcases m with m | ⟨x, m⟩
        · exact nda d m z
        · rw [z, hh] at m; cases m
      · rcases z with z | ⟨x, z⟩
        · exact nda d z y
        · rw [y, hh, z] at e; cases e
      · rcases z with z | ⟨x, z⟩
        · obtain ⟨_, o', h1, h2, _⟩ := s1.there z
          rw [e] at h1; cases h1; exact h2 ps y
        · rw [z] at y; cases y
  · have m : b ∈ G.m := by rw [← q.m]; exact m
    obtain ⟨o, h⟩ := j.mj.hr b m
    have nb : b ≠ c.da := fun z => j.mj.ow b m (mem_owns.mpr ⟨i, _, hi, rfl, by rw [z]; exact e0⟩)
    cases o with
    | tbl ps => obtain ⟨ps', e⟩ := q.t b ps h; exact ⟨_, e⟩
    | _ => exact ⟨_, q.k b _ h nb (fun _ z => by cases z)⟩
  · obtain ⟨k, s, e1, e2, e3⟩ := mem_owns.mp n
    obtain ⟨t, h1, h2⟩ := old e1 e2
    exact j.mj.ow b (by rw [← q.m]; exact m) (mem_owns.mpr ⟨k, t, h1, h2, e3⟩)
section
variable {X : Cx} {T : Tb} {c : Gh} {W : WX} {a b e value : Expr} {f f1 f2 : MM D} {pos p : Pos}
/-- f(dice, e, ..) -/
def callO (fm : List D → List D → Res (D × List D)) (i : Nat) (g : MM (List D)) : MM D := fun ρ => match ρ[i]? with
  | some (some (.dc _)) => MM.bind g (fun ds ρ1 => match ρ1[i]? with
    | some (some (.dc xs)) => match fm xs ds with
      | .ok (d, xs') => .ok d (ρ1.set i (some (.dc xs')))
      | _ => .stuck
    | _ => .stuck) ρ
  | _ => .stuck
theorem me_callO {x y : Str} {yp : Pos} {es : List Expr} {g : MM (List D)} {k i : Nat} {fa : Addr} {fd : FuncData} {ps : List Str} {fm : List D → List D → Res (D × List D)} (F : FnOk X.prog X.w X.K X.mg X.base (L2N.CX X.prog X.w) k fa fd ps (spO X.K T fm)) (hr : Room k X.A) (hg : Gl X x) (hm : X.mg x = some (.ref fa)) (hk : PySem.W.keepIn X.K (.ref fa) = true)
    (hb : Binds X.K fd ps []) (tk : L2N.Takes X W) (hN : X.N[i]? = some y) (hv : Vis X.env.scope y) (ha : PA X es (mA X.K T c W g)) (hdb : (x == ("__debug__" : Str)) = false := by decide) (hd : (y == ("__debug__" : Str)) = false := by decide) (hcd : (y == ("__classdict__" : Str)) = false := by decide) (he : starEach (.Name y yp :: es) X.env = (false, eval (.Name y yp) X.env) :: starEach es X.env := by rfl) (hpl : (backTo pos (starEach es X.env)).any (·.1) = false := by rfl) :
    PE X (.Call (.Name x p) (.Name y yp :: es) [] pos) (mE X.K T c W (callO fm i g)) := by
  refine pe_mono (pe_callS F hr hg hm hk hb (fun σ => L2N.passAt tk σ) (pa_cons (pe_var (i := i) (pos := yp) hN hv hd hcd) ha he) hdb he hpl) fun σ H Q ⟨G, ρ, j, p⟩ => ?_
  unfold callO at p
  split at p
  · rename_i xs0 hx
    obtain ⟨e1, ws0, _⟩ := j.dice hx
    refine ⟨_, e1, ?_⟩
    refine pX_bind j p fun ds us ρ1 G1 H1 l1 j1 r1 p1 => ?_
    split at p1
    · rename_i xs hy
      obtain ⟨e1', ws, g2, hh, r⟩ := j1.dice hy
      refine ⟨G1, c.da, ws, xs, us, ds, rfl, j1.sub, j1.nt, j1.tb, ⟨j1.mj.hr, fun m => j1.mj.ow _ m (mem_owns.mpr ⟨i, _, hy, rfl, e1'⟩)⟩, g2, hh, r, r1, ?_⟩
      split at p1
      · rename_i d xs' hf
        exact fun v ws' G' H' q g' hh' r' dv => p1 v G' H' q.g (j1.afterO hy q g' hh' r') dv
      · exact p1.elim
    · exact p1.elim
  · exact p.elim
/-- dice[k] = e -/
def dsetS (i k : Nat) (f : MM D) : MM Fl := MM.bind f fun d ρ => match ρ[i]? with
  | some (some (.dc xs)) => if k < xs.length then .ok .nx (ρ.set i (some (.dc (xs.set k d)))) else .stuck
  | _ => .stuck
theorem ms_dset {i k : Nat} {x : Str} {xp ip pos' : Pos} {j1} (hN : X.N[i]? = some x) (hv : Vis X.env.scope x) (he : PE X value (mE X.K T c W f)) (hd : (x == ("__debug__" : Str)) = false := by decide) (hcd : (x == ("__classdict__" : Str)) = false := by decide)
    (hs : swapsWithSole [.Subscript (.Name x xp) (.Constant (.int k) j1 ip) pos'] value pos.line X.env = pure false := by rfl) (hw : swappedStores [.Subscript (.Name x xp) (.Constant (.int k) j1 ip) pos'] value X.env = pure none := by rfl)
    (h1 : (assignEach [.Subscript (.Name x xp) (.Constant (.int k) j1 ip) pos'] X.env).map (·.2) = [assign (.Subscript (.Name x xp) (.Constant (.int k) j1 ip) pos') X.env] := by rfl)
    (ha : ∀ v, assign (.Subscript (.Name x xp) (.Constant (.int k) j1 ip) pos') X.env v = (do
      let ov ← holding [v] (eval (.Name x xp) X.env)
      let iv ← holding [v, ov] (eval (.Constant (.int k) j1 ip) X.env)
      standAt pos'
      holding [v, ov, iv] (setItem ov iv v)
      release [v, ov, iv] []) := by intro _; rfl) :
    PS X (.Assign [.Subscript (.Name x xp) (.Constant (.int k) j1 ip) pos'] value pos) (mS X.K T c W (dsetS i k f)) := by
  refine ps_mono (ps_asg he (pg_sub (pe_var (i := i) (pos := xp) hN hv hd hcd) (pe_int (i := (k : Int))) set_list ha) hs hw h1) fun Dn σ H ⟨G, ρ, j, p⟩ => ?_
  refine pS_bind j p fun d v ρ1 G1 H1 l1 j1 r1 p1 => ?_
  split at p1
  · rename_i xs hx
    obtain ⟨e1, ws, g, hh, r⟩ := j1.dice hx
    by_cases hk : k < xs.length
    · rw [if_pos hk] at p1
      refine ⟨_, e1, ?_⟩
      refine ⟨c.da, ws, k, k, rfl, rfl, hh, ?_, ?_⟩
      · unfold ixN
        rw [r.length, if_pos (by omega), if_pos (by omega)]
        simp
      · exact p1 σ G1 _ (Le.refl G1) (j1.upOwn hx rfl e1 rfl ⟨rfl, c.da, _, rfl, g, upd_same, r.set r1 k⟩)
    · rw [if_neg hk] at p1; exact p1.elim
  · exact p1.elim
end
end Mi
set_option Elab.async false
set_option linter.all false
set_option maxRecDepth 100000
set_option maxHeartbeats 4000000
namespace Mi
open PySem L2
theorem pss_ex {X : Cx} {e : List Stmt} {t : Gh → TS} (h : ∀ c, PSs X e (t c)) : PSs X e (fun Dn σ H => ∃ c, t c Dn σ H) := ⟨fun pins s σ H Dn I ⟨c, q⟩ => (h c).run pins s σ H Dn I q⟩
abbrev rLenQ (K : Fg) : List V → Hp → VK → Prop := fun xs H Q => ∃ p ys, xs = [V.ref p] ∧ (SqL K H p ys ∨ SqT K H p ys) ∧ Q (.int ys.length) H
abbrev tLen0 (K : Fg) : TE := tCB (rLenQ K) (tCons (tVar 0) tNil)
def spCell (K : Fg) : Sp := fun vs H Q _ => ∃ (a : Addr) (k : Nat) (ns : List Int), vs = [.ref a, .int k] ∧ SqL K H a (ns.map V.int) ∧ k < 100 ∧ ns.length < 100 ∧ ∀ z H', (∀ b o, H b = some o → H' b = some o) → Q (.int z) H'
def tCell (K : Fg) : TS := tSeq (tIfS (tTest (tOp (rEqD K) (tVar 0) (tLst tNil))) (tRet (tOp (rI CMul fun i j => .int (i * j)) (tVar 1) (tC (.int 7919)))) tNext)
  (tRet (tOp (rI0 fun i j => .int (i + j)) (tOp (rIxL K) (tVar 0) (tOp (rI (fun _ j => 0 < j) fun i j => .int (i % j)) (tVar 1) (tLen0 K)))
    (tOp (rI CMul fun i j => .int (i * j)) (tOp (rI CDiv fun i j => .int (i / j)) (tVar 1) (tLen0 K)) (tC (.int 104729)))))
theorem dp_ints {K : Fg} {H : Hp} : ∀ ns : List Int, DpAll K H (ns.map V.int) (ns.map PyData.int)
  | [] => .nil
  | n :: ns => .cons (.int n) (dp_ints ns)
theorem lay_ints : ∀ ns : List Int, PyData.canLayAll0 (ns.map PyData.int) = true
  | [] => by simp [PyData.canLayAll0]
  | n :: ns => by
    rw [List.map_cons, PyData.canLayAll0, lay_ints ns]
    simp [PyData.canLay0]
theorem depth_ints : ∀ ns : List Int, PyData.depthAll (ns.map PyData.int) = 0
  | [] => by simp [PyData.depthAll]
  | n :: ns => by
    rw [List.map_cons, PyData.depthAll, depth_ints ns]
    simp [PyData.depth]
theorem shaped_ints (ns : List Int) : SeqAt.shaped (.list (ns.map PyData.int)) = true := by
  unfold SeqAt.shaped
  rw [PyData.canLay0, lay_ints, PyData.depth, depth_ints]
  rfl
theorem cell_reads {K : Fg} {vs : List V} {H : Hp} {Q : VK} {E : XK} (h : spCell K vs H Q E) : tCell K { nx := fun _ H' => Q .non H', rt := Q } (L2.start ["_law_script", "_law_k"] vs) H := by
  obtain ⟨a, k, ns, rfl, hS, hk, hn, q⟩ := h
  refine ⟨_, rfl, Nat.zero_le _, fun p hp => ?_⟩
  have up : ∀ b o, H b = some o → upd H p (.lst []) b = some o := fun b o e => by rw [upd_ne (ne_of_none e hp)]; exact e
  have hS2 : SqL K (upd H p (.lst [])) a (ns.map V.int) := sqL_sub hS (sub_of up)
  refine ⟨.list (ns.map PyData.int), .list [], .lst hS2 (dp_ints ns), .lst (.inl (.inl upd_same)) .nil, shaped_ints ns, rfl, _, rfl, ?_⟩
  by_cases z : ns = []
  · subst z
    dsimp only
    rw [if_pos (show PyData.eqv (.list (List.map PyData.int [])) (.list []) = true by simp [PyData.eqv, PyData.eqvAll])]
    exact ⟨_, rfl, _, _, rfl, rfl, .inr (by decide), q _ _ up⟩
  · have hz : PyData.eqv (.list (ns.map PyData.int)) (.list []) = false := by
      cases ns with
      | nil => exact absurd rfl z
      | cons n ns => simp [PyData.eqv, PyData.eqvAll]
    dsimp only
    rw [hz, if_neg Bool.false_ne_true]
    have hpos : 0 < ns.length := List.length_pos_iff.mpr z
    refine ⟨_, rfl, _, rfl, _, rfl, _, _, rfl, .inl hS2, ?_⟩
    refine ⟨_, _, rfl, rfl, by simpa using hpos, ?_⟩
    have hi : k % ns.length < ns.length := Nat.mod_lt _ hpos
    have e1 : ((k : Int) % ((ns.map V.int).length : Int)) = ((k % ns.length : Nat) : Int) := by
      rw [List.length_map]; omega
    dsimp only
    rw [e1]
    refine ⟨a, _, _, _, rfl, rfl, hS2, atI_nat (v := V.int ns[k % ns.length]) (by simp [hi]), ?_⟩
    refine ⟨_, rfl, _, rfl, _, _, rfl, .inl hS2, ?_⟩
    refine ⟨_, _, rfl, rfl, ?_, ?_⟩
    · refine ⟨by simpa using hpos, ?_⟩
      rw [List.length_map]
      omega
    · refine ⟨_, _, rfl, rfl, .inr (by decide), ?_⟩
      exact ⟨_, _, rfl, rfl, q _ _ up⟩
def DiceAt (H : Hp) (v : V) : Prop := ∃ b x y, v = .ref b ∧ H b = some (.lst [.int x, .int y])
def spRounds (K : Fg) : Sp := fun vs H Q _ => ∃ (a : Addr) (n : Nat) (ns : List Int), vs = [.ref a, .int n] ∧ SqL K H a (ns.map V.int) ∧ n < 100 ∧ ns.length < 100 ∧ ∀ al rs H', (∀ b o, H b = some o → H' b = some o) → H' al = some (.lst rs) → (∀ r ∈ rs, DiceAt H' r) → Q (.ref al) H'
abbrev rMax2 : List V → Hp → VK → Prop := fun xs H Q => ∃ i j, xs = [.int i, .int j] ∧ Q (.int (if j > i then j else i)) H
abbrev rMin2 : List V → Hp → VK → Prop := fun xs H Q => ∃ i j, xs = [.int i, .int j] ∧ Q (.int (if j < i then j else i)) H
def tRounds (K : Fg) (E : St → XK) : TS := tRet (tLc (iRng1 (tCons (tCB rMax2 (tCons (tC (.int 1)) (tCons (tCB rMin2 (tCons (tVar 1) (tCons (tLen0 K) tNil))) tNil))) tNil)) (gName 2) tYes
  (tLst (tCons (tCallS (spCell K) E (tCons (tVar 0) (tCons (tVar 2) tNil))) (tCons (tC (.int 0)) tNil))) [2])
theorem DiceAt.ext {H H' : Hp} {v : V} (h : DiceAt H v) (e : ∀ b o, H b = some o → H' b = some o) : DiceAt H' v := by
  obtain ⟨b, x, y, h1, h2⟩ := h
  exact ⟨b, x, y, h1, e _ _ h2⟩
theorem rounds_reads {K : Fg} {vs : List V} {H : Hp} {Q : VK} {E : XK} {E' : St → XK} (h : spRounds K vs H Q E) : tRounds K E' { nx := fun _ H' => Q .non H', rt := Q } (L2.start ["_law_script", "_law_high", "_law_k"] vs) H := by
  obtain ⟨a, n, ns, rfl, hS, hn, hl, q⟩ := h
  refine ⟨_, rfl, _, rfl, _, _, rfl, .inl hS, ?_⟩
  refine ⟨_, _, rfl, _, _, rfl, ?_⟩
  dsimp only
  generalize hm : (if (if ((ns.map V.int).length : Int) < (n : Int) then ((ns.map V.int).length : Int) else (n : Int)) > 1 then (if ((ns.map V.int).length : Int) < (n : Int) then ((ns.map V.int).length : Int) else (n : Int)) else 1) = m
  have hm1 : 0 ≤ m ∧ m < 100 := by
    rw [List.length_map] at hm
    split at hm <;> split at hm <;> omega
  refine ⟨m, rfl, by omega, by omega, fun D hD => ?_⟩
  have up0 : ∀ b o, H b = some o → upd H D (.lst []) b = some o := fun b o e => by rw [upd_ne (ne_of_none e hD)]; exact e
  refine lc_range (fun i H' => (∀ b o, H b = some o → H' b = some o) ∧ ∃ rs, H' D = some (.lst rs) ∧ rs.length = i ∧ (∀ r ∈ rs, DiceAt H' r) ∧ ∀ r ∈ rs, r ≠ .ref D) ⟨up0, [], upd_same, rfl, by simp, by simp⟩ (fun i H' hi ⟨e, rs, h1, h2, h3, h4⟩ => ?_) fun H' ⟨e, rs, h1, h2, h3, h4⟩ => q D rs H' e h1 h3
  have hw : wipe ((wipe (L2.start ["_law_script", "_law_high", "_law_k"] [V.ref a, V.int (n : Int)]) [2]).set 2 (some (.int ((0 : Int) + (i : Int))))) [2] = wipe (L2.start ["_law_script", "_law_high", "_law_k"] [V.ref a, V.int (n : Int)]) [2] := rfl
  refine ⟨hw, ?_⟩
  refine ⟨_, rfl, _, rfl, ?_⟩
  refine ⟨a, i, ns, by simp, sqL_sub hS (sub_of e), by omega, hl, fun z H2 e2 => ?_⟩
  refine ⟨(by decide : (2 : Nat) ≤ sizeLine), fun p hp => ?_⟩
  have up : ∀ b o, H2 b = some o → upd H2 p (.lst [.int z, .int 0]) b = some o := fun b o e => by rw [upd_ne (ne_of_none e hp)]; exact e
  refine ⟨rs, up _ _ (e2 _ _ h1), Nat.lt_trans (show rs.length < 100 by omega) (by decide), ?_⟩
  have nD : p ≠ D := fun z => by rw [z, e2 _ _ h1] at hp; cases hp
  have up2 : ∀ b o, b ≠ D → H2 b = some o → upd (upd H2 p (.lst [.int z, .int 0])) D (.lst (rs ++ [V.ref p])) b = some o := fun b o nb e => by rw [upd_ne nb]; exact up _ _ e
  refine ⟨fun b o eb => up2 b o (fun z => by rw [z, hD] at eb; cases eb) (e2 _ _ (e _ _ eb)), _, upd_same, by simp [h2], fun r hr => ?_, fun r hr => ?_⟩
  · rcases List.mem_append.mp hr with hr | hr
    · obtain ⟨b, x, y, rfl, hb⟩ := h3 r hr
      exact ⟨b, x, y, rfl, up2 _ _ (fun z => h4 _ hr (by rw [z])) (e2 _ _ hb)⟩
    · obtain rfl : r = .ref p := by simpa using hr
      exact ⟨p, z, 0, rfl, by rw [upd_ne nD, upd_same]⟩
  · rcases List.mem_append.mp hr with hr | hr
    · exact h4 r hr
    · obtain rfl : r = .ref p := by simpa using hr
      exact fun z => nD (V.ref.inj z)
def spLaw (K : Fg) (T : Tb) : Sp := fun vs H Q _ => ∃ (a : Addr) (ns : List Int), vs = [.ref a] ∧ SqL K H a (ns.map V.int) ∧ ns.length < 100 ∧ TabsC T H ∧ ∀ H', Q (.bl true) H'
/-- one round: from any dice, to the end, the dice dice -/
def roundSt (n : Nat) (x y : Int) : MSt := none :: some (.dc [.int x, .int y]) :: (List.replicate (n - 2) none ++ [some (.sto true [])])
def isDc : Option (Option S) → Bool
  | some (some (.dc [.int _, .int _])) => true
  | _ => false
def RoundOk (n : Nat) (b : MM Fl) : Prop := ∀ x y : Int, ∃ ρ', (b (roundSt n x y) = .ok .nx ρ' ∨ b (roundSt n x y) = .ok .ct ρ') ∧ isDc ρ'[1]? = true ∧ ρ'.length = n + 1
def tLaw (K : Fg) (T : Tb) (W : WX) (E : St → XK) (r : Int) (b : MM Fl) : TS := tSeq (tFor (fun σ H R => tCallS (spRounds K) E (tCons (tVar 0) (tCons (tC (.int r)) tNil)) σ H fun x H1 => (∃ a, x = .ref a ∧ (∃ xs, SqL K H1 a xs) ∧ R (Itl K a) H1) ∨ (∃ a, x = .ref a ∧ (∃ xs, SqT K H1 a xs) ∧ R (Itt K a) H1) ∨ ∃ s, x = .str s ∧ R (Its s) H1) (gName 1) (fun Dn σ H => ∃ c, mS K T c W b Dn σ H)) (tRet (tC (.bl true)))
theorem law_reads {K : Fg} {T : Tb} {W : WX} {vs : List V} {H : Hp} {Q : VK} {E : XK} {E' : St → XK} {r : Nat} {b : MM Fl} {N : List Str} (hN : 2 ≤ N.length) (hr : r < 100) (hb : RoundOk N.length b) (h : spLaw K T vs H Q E) : tLaw K T W E' r b { nx := fun _ H' => Q .non H', rt := Q } (L2.start N vs) H := by
  obtain ⟨a, ns, rfl, hS, hl, tb, q⟩ := h
  have s0 : (L2.start N [V.ref a])[0]? = some (some (.ref a)) := by unfold L2.start; simp
  have sl : (L2.start N [V.ref a]).length = N.length := by unfold L2.start; simp; omega
  refine ⟨_, s0, a, r, ns, rfl, hS, hr, hl, fun al rs H' e hal hds => .inl ⟨al, rfl, ⟨rs, .inl (.inl hal)⟩, ?_⟩⟩
  refine ⟨fun i m σ H => m = rs.length - i ∧ i ≤ rs.length ∧ σ.length = N.length ∧ TabsC T H ∧ H al = some (.lst rs) ∧ ∀ v ∈ rs, DiceAt H v, ⟨rs.length, by simp, Nat.zero_le _, sl, tb.ext e, hal, hds⟩, ?_⟩
  rintro i m σ H2 ⟨rfl, hi, hσ, tb2, hal2, hd2⟩
  have sq : SqL K H2 al rs := .inl (.inl hal2)
  by_cases hlt : i < rs.length
  · refine .inr ⟨⟨rs, rs[i], sq, by simp [hlt]⟩, fun σ H => σ.length = N.length ∧ TabsC T H ∧ H al = some (.lst rs) ∧ ∀ v ∈ rs, DiceAt H v, fun σ' H' h => ⟨rs.length - (i + 1), by omega, rfl, hlt, h⟩, fun v H3 yy => ?_⟩
    obtain ⟨e3, yy⟩ := yy
    subst e3
    have hv := yy rs sq
    obtain ⟨bd, x, y, rfl, hbd⟩ := hd2 v (List.mem_of_getElem? hv)
    have nal : al ≠ bd := fun z => by
      rw [z, hbd] at hal2
      cases hal2
      match i, hv with
      | 0, hv => simp at hv
      | 1, hv => simp at hv
      | i + 2, hv => simp at hv
    show ∃ c, mS K T c W b _ (σ.set 1 (some (.ref bd))) H3
    have h1 : 1 < σ.length := by omega
    refine ⟨⟨H3, ⟨fun _ => none, []⟩, [bd], bd, true, []⟩, ⟨fun _ => none, []⟩, roundSt N.length x y, ?_, ?_⟩
    · have at_ : ∀ {k : Nat} {s : S}, (roundSt N.length x y)[k]? = some (some s) → (k = 1 ∧ s = .dc [.int x, .int y]) ∨ s = .sto true [] := fun {k s} e => by
        unfold roundSt at e
        match k, e with
        | 0, e => simp at e
        | 1, e => simp at e; exact .inl ⟨rfl, e.symm⟩
        | k + 2, e =>
          rw [List.getElem?_cons_succ, List.getElem?_cons_succ] at e
          by_cases hk : k < (List.replicate (N.length - 2) (none : Option S)).length
          · rw [List.getElem?_append_left hk, List.getElem?_replicate] at e
            split at e <;> cases e
          · rw [List.getElem?_append_right (by omega)] at e
            generalize k - (List.replicate (N.length - 2) (none : Option S)).length = r at e
            match r, e with
            | 0, e => simp at e; exact .inr e.symm
            | r + 1, e => simp at e
      refine ⟨(fun _ _ z => by cases z), Le.refl _, fun _ _ _ _ => rfl, fun _ _ e _ _ => e, fun _ ps e => ⟨ps, e⟩, ?_, fun k s e ns => ?_, fun k s b' e o e2 => ?_, fun k l s t b' d' e1 e2 o1 o2 f1 f2 n => ?_, tb2, (fun _ _ z => by cases z), fun b' μ e => ?_, ⟨(fun _ z => by cases z), (fun _ z => by cases z), (fun _ z => by cases z), (fun _ => rfl), (fun _ z => by cases z)⟩⟩
      · unfold roundSt
        simp only [List.length_cons, List.length_append, List.length_nil, List.length_replicate, List.length_set]
        omega
      · rcases at_ e with ⟨rfl, rfl⟩ | rfl
        rotate_left
        · cases ns
        exact ⟨.ref bd, List.getElem?_set_self h1, rfl, bd, _, rfl, rfl, hbd, .cons (.int x) (.cons (.int y) .nil)⟩
      · rcases at_ e with ⟨rfl, rfl⟩ | rfl
        rotate_left
        · cases o
        rw [List.getElem?_set_self h1] at e2
        cases e2
        exact .inr (by simp)
      · rcases at_ e1 with ⟨rfl, rfl⟩ | rfl
        rotate_left
        · cases o1
        rcases at_ e2 with ⟨rfl, rfl⟩ | rfl
        rotate_left
        · cases o2
        exact absurd rfl n
      · rcases at_ e with ⟨_, z⟩ | z
        · cases z
        · cases z
          exact ⟨⟨rfl, List.nodup_nil, fun n a u e => by cases e⟩, (fun _ => rfl), (fun _ n a u e => by cases e), fun n a u e => by cases e⟩
    · obtain ⟨ρ', hq, hdc, hlen⟩ := hb x y
      have fin : ∀ (σ' : St) (G' : Wd) (H' : Hp), Le ⟨fun _ => none, []⟩ G' → J K T ⟨H3, ⟨fun _ => none, []⟩, [bd], bd, true, []⟩ G' H' σ' ρ' → σ'.length = N.length ∧ TabsC T H' ∧ H' al = some (.lst rs) ∧ ∀ v ∈ rs, DiceAt H' v := fun σ' G' H' _ j' => by
        have hdc2 : ∃ x' y', ρ'[1]? = some (some (.dc [.int x', .int y'])) := by
          unfold isDc at hdc
          split at hdc
          · rename_i x' y' hx; exact ⟨x', y', hx⟩
          · cases hdc
        obtain ⟨x', y', hx⟩ := hdc2
        obtain ⟨f1, ws, f2, f3, f4⟩ := j'.dice hx
        have ew : ws = [.int x', .int y'] := by
          cases f4 with
          | cons g1 g2 =>
            cases g1
            cases g2 with
            | cons g1 g2 => cases g1; cases g2; rfl
        subst ew
        have keep : ∀ b o, H3 b = some o → b ≠ bd → (∀ ps, o ≠ .tbl ps) → H' b = some o := fun b o e n t => j'.fr b o e (by simpa using n) t
        refine ⟨?_, j'.tb, keep al _ hal2 nal (fun _ z => by cases z), fun v hv => ?_⟩
        · have := j'.len; omega
        · obtain ⟨b1, x1, y1, rfl, hb1⟩ := hd2 v hv
          by_cases z : b1 = bd
          · subst z; exact ⟨b1, x', y', rfl, f3⟩
          · exact ⟨b1, x1, y1, rfl, keep _ _ hb1 z (fun _ z => by cases z)⟩
      rcases hq with hq | hq
      · rw [hq]; exact fun σ' G' H' l' j' => fin σ' G' H' l' j'
      · rw [hq]; exact fun σ' G' H' l' j' => fin σ' G' H' l' j'
  · have ei : i = rs.length := by omega
    subst ei
    exact .inl ⟨⟨rs, sq, Nat.le_refl _⟩, q _⟩
end Mi
set_option Elab.async false
set_option linter.all false
set_option maxRecDepth 100000
set_option maxHeartbeats 4000000
namespace Mi
open PySem L2
theorem bt_int : bootBuiltins "int" = some (.type "int") := by decide +kernel
theorem bt_bool : bootBuiltins "bool" = some (.type "bool") := by decide +kernel
theorem bt_str : bootBuiltins "str" = some (.type "str") := by decide +kernel
theorem bt_tuple : bootBuiltins "tuple" = some (.type "tuple") := by decide +kernel
theorem bt_list : bootBuiltins "list" = some (.type "list") := by decide +kernel
theorem bt_dict : bootBuiltins "dict" = some (.type "dict") := by decide +kernel
theorem bt_isinstance : bootBuiltins "isinstance" = some (.builtin "isinstance") := by decide +kernel
theorem bt_len : bootBuiltins "len" = some (.builtin "len") := by decide +kernel
theorem bt_all : bootBuiltins "all" = some (.builtin "all") := by decide +kernel
theorem bt_sum : bootBuiltins "sum" = some (.builtin "sum") := by decide +kernel
theorem bt_max : bootBuiltins "max" = some (.builtin "max") := by decide +kernel
theorem bt_min : bootBuiltins "min" = some (.builtin "min") := by decide +kernel
theorem bt_sorted : bootBuiltins "sorted" = some (.builtin "sorted") := by decide +kernel
theorem takes0 {X : Cx} : L2N.Takes X W0 := fun u s' ⟨a, B, sI, pins, σ, H, cls, d, e, I, nb, up, sky, na, os, ag, w⟩ => w.elim
section
variable {X : Cx} {T : Tb} {c : Gh} {W : WX}
theorem mv (i : Nat) {x : Str} {pos : Pos} (hN : X.N[i]? = some x := by rfl) (hv : Vis X.env.scope x := by first | exact Or.inl rfl | exact Or.inr (Or.inl rfl) | exact Or.inr (Or.inr rfl)) (hd : (x == ("__debug__" : Str)) = false := by decide)
    (hcd : (x == ("__classdict__" : Str)) = false := by decide) : PE X (.Name x pos) (mE X.K T c W (var i)) := me_var hN hv hd hcd
end
/-- a def of the module, as the head left it -/
structure DefF (K : Fg) (mg : Str → Option Value) (x : Str) (st : Stmt) (ps : List Str) where
  f : Addr
  fd : FuncData
  F : Fun K x x st f fd
  g : mg x = some (.ref f)
  b : Binds K fd ps []
end Mi
set_option Elab.async false
set_option linter.all false
set_option maxRecDepth 100000
set_option maxHeartbeats 4000000
namespace Mi
open PySem L2
def newAt : List V → List S → List Addr
  | .ref D :: vs, s :: ss => if s.own = true then D :: newAt vs ss else newAt vs ss
  | _ :: vs, _ :: ss => newAt vs ss
  | _, _ => []
inductive AllS (K : Fg) (c : Gh) (G : Wd) (H : Hp) (σ : St) (ρ : MSt) : List V → List S → Prop
  | nil : AllS K c G H σ ρ [] []
  | dat {v : V} {x : D} {vs : List V} {ss : List S} : Dq K G v x → AllS K c G H σ ρ vs ss → AllS K c G H σ ρ (v :: vs) (.d x :: ss)
  | own {q : Addr} {s : S} {vs : List V} {ss : List S} : s.own = true → RS K c.da G H s (.ref q) → (c.H0 q = none ∨ q ∈ c.M) → q ∉ owns σ ρ ∧ q ∉ G.m → q ∉ newAt vs ss → AllS K c G H σ ρ vs ss → AllS K c G H σ ρ (.ref q :: vs) (s :: ss)
theorem newAt_dat {v : V} {x : D} {vs : List V} {ss : List S} : newAt (v :: vs) (.d x :: ss) = newAt vs ss := by
  cases v <;> simp [newAt, S.own]
theorem newAt_own {D : Addr} {s : S} {vs : List V} {ss : List S} (h : s.own = true) : newAt (.ref D :: vs) (s :: ss) = D :: newAt vs ss := by
  simp [newAt, h]
def putsV : St → List Nat → List V → St
  | σ, i :: is, v :: vs => putsV (σ.set i (some v)) is vs
  | σ, _, _ => σ
def putsS : MSt → List Nat → List S → MSt
  | ρ, i :: is, s :: ss => putsS (ρ.set i (some s)) is ss
  | ρ, _, _ => ρ
theorem owns_put {σ : St} {ρ : MSt} {i : Nat} {v : V} {s : S} {b : Addr} (h : b ∈ owns (σ.set i (some v)) (ρ.set i (some s))) : b ∈ owns σ ρ ∨ (v = .ref b ∧ s.own = true) := by
  obtain ⟨k, t, e1, e2, e3⟩ := mem_owns.mp h
  by_cases z : k = i
  · subst z
    have hk : k < ρ.length := by
      have := (List.getElem?_eq_some_iff.mp e1).1
      simpa using this
    have hk2 : k < σ.length := by
      have := (List.getElem?_eq_some_iff.mp e3).1
      simpa using this
    rw [List.getElem?_set_self hk] at e1
    rw [List.getElem?_set_self hk2] at e3
    cases e1
    cases e3
    exact .inr ⟨rfl, e2⟩
  · rw [List.getElem?_set_ne (Ne.symm z)] at e1 e3
    exact .inl (mem_owns.mpr ⟨k, t, e1, e2, e3⟩)
theorem AllS.put {K : Fg} {c : Gh} {G : Wd} {H : Hp} {σ : St} {ρ : MSt} {i : Nat} {v : V} {s : S} {vs : List V} {ss : List S} (n : ∀ q, v = .ref q → s.own = true → q ∉ newAt vs ss) (a : AllS K c G H σ ρ vs ss) : AllS K c G H (σ.set i (some v)) (ρ.set i (some s)) vs ss := by
  induction a with
  | nil => exact .nil
  | dat h t ih => exact .dat h (ih fun q e o => by have := n q e o; rw [newAt_dat] at this; exact this)
  | @own aa _ _ _ o r h0 no nn t ih =>
    refine .own o r h0 ⟨fun m => ?_, no.2⟩ nn (ih fun q e o' m => ?_)
    · rcases owns_put m with q | ⟨q1, q2⟩
      · exact no.1 q
      · have := n aa q1 q2
        rw [newAt_own o] at this
        exact this List.mem_cons_self
    · have := n q e o'
      rw [newAt_own o] at this
      exact this (List.mem_cons_of_mem _ m)
theorem J.puts {K : Fg} {T : Tb} {c : Gh} {G : Wd} {H : Hp} : ∀ {is : List Nat} {vs : List V} {ss : List S} {σ : St} {ρ : MSt}, (∀ i ∈ is, i + 1 < ρ.length) → J K T c G H σ ρ → AllS K c G H σ ρ vs ss → J K T c G H (putsV σ is vs) (putsS ρ is ss)
  | [], vs, ss, σ, ρ, _, j, _ => by cases vs <;> cases ss <;> exact j
  | i :: is, [], ss, σ, ρ, _, j, a => by cases a; exact j
  | i :: is, v :: vs, [], σ, ρ, _, j, a => by cases a
  | i :: is, v :: vs, s :: ss, σ, ρ, hi, j, a => by
    have h1 : i + 1 < ρ.length := hi i List.mem_cons_self
    have h2 : ∀ k ∈ is, k + 1 < (ρ.set i (some s)).length := fun k m => by simpa using hi k (List.mem_cons_of_mem _ m)
    cases a with
    | dat h t => exact J.puts (is := is) (σ := σ.set i (some v)) (ρ := ρ.set i (some (.d _))) h2 (j.set h1 h) (AllS.put (fun _ _ o => by cases o) t)
    | @own q _ _ _ o r h0 no nn t => exact J.puts (is := is) (σ := σ.set i (some (.ref q))) (ρ := ρ.set i (some s)) h2 (j.keep h1 o r h0 no) (AllS.put (fun _ e _ => by cases e; exact nn) t)
section
variable (K : Fg) (T : Tb) (c : Gh) (W : WX)
def pL (σ : St) (G : Wd) (Q : List V → Hp → Prop) : Out (List S) → Prop
  | .ok ss ρ' => ∀ vs G' H', Le G G' → J K T c G' H' σ ρ' → AllS K c G' H' σ ρ' vs ss → Q vs H'
  | .exn e ρ' => ∀ cls dx G' H', Le G G' → J K T c G' H' σ ρ' → IsX K G'.hp e cls dx → W cls dx σ H'
  | .stuck => False
def mL (f : MM (List S)) : TA := fun σ H Q => ∃ G ρ, J K T c G H σ ρ ∧ pL K T c W σ G Q (f ρ)
end
theorem AllS.le {K : Fg} {c : Gh} {G G' : Wd} {H H' : Hp} {σ : St} {ρ ρ' : MSt} {vs : List V} {ss : List S} (l : Le G G') (n : ∀ q ∈ newAt vs ss, (q ∉ owns σ ρ' ∧ q ∉ G'.m) ∧ G' q = none ∧ ∀ o, H q = some o → (∀ ps, o ≠ .tbl ps) → H' q = some o) (a : AllS K c G H σ ρ vs ss) : AllS K c G' H' σ ρ' vs ss := by
  induction a with
  | nil => exact .nil
  | dat h t ih => exact .dat (h.le l) (ih fun q m => n q (by rw [newAt_dat]; exact m))
  | @own aa s _ _ o r h0 no nn t ih =>
    obtain ⟨n1, n2, n3⟩ := n aa (by rw [newAt_own o]; exact List.mem_cons_self)
    refine .own o ?_ h0 n1 nn (ih fun q m => n q (by rw [newAt_own o]; exact List.mem_cons_of_mem _ m))
    cases s with
    | d x => cases o
    | sto b μ => cases o
    | ol xs => obtain ⟨a, vs, e, g, hh, r⟩ := r; cases e; exact ⟨_, vs, rfl, n2, n3 _ hh (fun _ z => by cases z), r.le l⟩
    | od xs => obtain ⟨a, vs, e, g, hh, r⟩ := r; cases e; exact ⟨_, vs, rfl, n2, n3 _ hh (fun _ z => by cases z), r.le l⟩
    | dc xs => obtain ⟨e0, a, vs, e, g, hh, r⟩ := r; cases e; exact ⟨e0, _, vs, rfl, n2, n3 _ hh (fun _ z => by cases z), r.le l⟩
theorem AllS.newH {K : Fg} {c : Gh} {G : Wd} {H : Hp} {σ : St} {ρ : MSt} : ∀ {vs : List V} {ss : List S}, AllS K c G H σ ρ vs ss → ∀ D ∈ newAt vs ss, ∃ o, H D = some o ∧ G D = none ∧ (∀ ps, o ≠ .tbl ps) ∧ (c.H0 D = none ∨ D ∈ c.M) ∧ D ∉ owns σ ρ ∧ D ∉ G.m
  | _, _, .nil, D, m => by simp [newAt] at m
  | _, _, .dat h t, D, m => by rw [newAt_dat] at m; exact AllS.newH t D m
  | _, _, .own o r h0 no nn t, D, m => by
    rw [newAt_own o] at m
    rcases List.mem_cons.mp m with e | m
    · subst e
      obtain ⟨a, u, e, g, hh, t1, _⟩ := r.addr o
      cases e
      exact ⟨u, hh, g, t1, h0, no⟩
    · exact AllS.newH t D m
section
variable {X : Cx} {T : Tb} {c : Gh} {W : WX} {e : Expr} {es : List Expr} {f : MM D} {fo : MM S} {g : MM (List S)} {pos : Pos}
theorem ml_nil : PA X [] (mL X.K T c W (MM.pure [])) := pa_mono pa_nil fun σ H Q ⟨G, ρ, j, p⟩ => p [] G H (Le.refl G) j .nil
def consD (f : MM D) (g : MM (List S)) : MM (List S) := MM.bind f fun x => MM.bind g fun ss => MM.pure (.d x :: ss)
def consS (f : MM S) (g : MM (List S)) : MM (List S) := MM.bind f fun x => MM.bind g fun ss => MM.pure (x :: ss)
theorem ml_dat (he : PE X e (mE X.K T c W f)) (hr : PA X es (mL X.K T c W g)) (hs : starEach (e :: es) X.env = (false, eval e X.env) :: starEach es X.env := by rfl) : PA X (e :: es) (mL X.K T c W (consD f g)) := by
  refine pa_mono (pa_cons he hr hs) fun σ H Q ⟨G, ρ, j, p⟩ => ?_
  refine ⟨G, ρ, j, ?_⟩
  unfold consD MM.bind at p
  cases z : f ρ with
  | exn y ρ1 => rw [z] at p; exact p
  | stuck => rw [z] at p; exact p.elim
  | ok x ρ1 =>
    rw [z] at p
    intro v G1 H1 l1 j1 r1
    refine ⟨G1, ρ1, j1, ?_⟩
    cases z2 : g ρ1 with
    | exn y ρ2 => simp only [z2] at p; exact fun cls dx G' H' l => p cls dx G' H' (l1.trans l)
    | stuck => simp only [z2] at p; exact p.elim
    | ok ss ρ2 =>
      simp only [z2] at p
      exact fun vs G2 H2 l2 j2 a => p _ G2 H2 (l1.trans l2) j2 (.dat (r1.le l2) a)
theorem ml_own (he : PE X e (mO X.K T c W fo)) (hr : ∀ c, PA X es (mL X.K T c W g)) (hs : starEach (e :: es) X.env = (false, eval e X.env) :: starEach es X.env := by rfl) : PA X (e :: es) (mL X.K T c W (consS fo g)) := by
  refine pa_mono (pa_cons (t := fun σ H Q => ∃ c, mL X.K T c W g σ H Q) he ⟨fun pos pins s σ H Q I ⟨c, q⟩ => (hr c).run pos pins s σ H Q I q⟩ hs) fun σ H Q ⟨G, ρ, j, p⟩ => ?_
  refine ⟨G, ρ, j, ?_⟩
  unfold consS MM.bind at p
  cases z : fo ρ with
  | exn y ρ1 => rw [z] at p; exact p
  | stuck => rw [z] at p; exact p.elim
  | ok x ρ1 =>
    rw [z] at p
    intro D G1 H1 l1 j1 o r h0 no
    refine ⟨here c G1 H1 σ ρ1, G1, ρ1, j1.here, ?_⟩
    obtain ⟨a', u, ea, gD, hD, tD, cD, _⟩ := r.addr o
    cases ea
    have nh := not_here (c := c) (H := H1) no
    have hn : (here c G1 H1 σ ρ1).H0 D ≠ none := by show H1 D ≠ none; rw [hD]; exact fun z => by cases z
    cases z2 : g ρ1 with
    | exn y ρ2 => simp only [z2] at p; exact fun cls dx G' H' l j' => p cls dx G' H' (l1.trans l) (j1.back j')
    | stuck => simp only [z2] at p; exact p.elim
    | ok ss ρ2 =>
      simp only [z2] at p
      intro vs G2 H2 l2 j2 a
      have jb := j1.back j2
      have hD2 : H2 D = some u := j2.fr D _ hD nh tD
      have gD2 : G2 D = none := j2.gn D gD hn nh
      have noD : D ∉ owns σ ρ2 ∧ D ∉ G2.m := j2.apart hn nh no.2
      have nn : D ∉ newAt vs ss := fun m => by
        obtain ⟨_, _, _, _, q, _⟩ := a.newH D m
        exact q.elim hn nh
      have a' : AllS X.K c G2 H2 σ ρ2 vs ss := by
        have : ∀ {vs : List V} {ss : List S}, AllS X.K (here c G1 H1 σ ρ1) G2 H2 σ ρ2 vs ss → AllS X.K c G2 H2 σ ρ2 vs ss := fun {vs ss} a => by
          induction a with
          | nil => exact .nil
          | dat h t ih => exact .dat h ih
          | own o r h0 no nn t ih =>
            refine .own o ?_ ?_ no nn ih
            · exact r
            · rcases h0 with z | z
              · exact j1.H0none z
              · exact j1.hereM z
        exact this a
      refine p _ G2 H2 (l1.trans l2) jb (.own o ?_ h0 noD nn a')
      cases x with
      | d y => cases o
      | sto b μ => cases o
      | ol ys => obtain ⟨b, ws, e1, g1, hh, r⟩ := r; cases e1; rw [hD] at hh; cases hh; exact ⟨_, ws, rfl, gD2, hD2, r.le l2⟩
      | od ys => obtain ⟨b, ws, e1, g1, hh, r⟩ := r; cases e1; rw [hD] at hh; cases hh; exact ⟨_, ws, rfl, gD2, hD2, r.le l2⟩
      | dc ys => obtain ⟨e0, b, ws, e1, g1, hh, r⟩ := r; cases e1; rw [hD] at hh; cases hh; exact ⟨e0, _, ws, rfl, gD2, hD2, r.le l2⟩
theorem mo_newL {lp : Pos} : PE X (.List [] lp) (mO X.K T c W (MM.pure (.ol []))) :=
  pe_mono (pe_lst pa_nil) fun σ H Q ⟨G, ρ, j, p⟩ => ⟨Nat.zero_le _, fun q hq => p q G _ (Le.refl G) (j.aside hq) rfl ⟨q, [], rfl, j.fresh hq, upd_same, .nil⟩ (j.H0none hq) ⟨j.notOwn hq, j.freshM hq⟩⟩
theorem mo_newD {lp : Pos} : PE X (.Dict [] [] lp) (mO X.K T c W (MM.pure (.od []))) :=
  pe_mono pe_dnewK fun σ H Q ⟨G, ρ, j, p⟩ => fun q hq => p q G _ (Le.refl G) (j.aside hq) rfl ⟨q, [], rfl, j.fresh hq, upd_same, .nil⟩ (j.H0none hq) ⟨j.notOwn hq, j.freshM hq⟩
def putsR (is : List Nat) (ss : List S) : MM Fl := fun ρ => if is.length = ss.length ∧ (∀ i ∈ is, i + 1 < ρ.length) then .ok .nx (putsS ρ is ss) else .stuck
def parL (is : List Nat) (g : MM (List S)) : MM Fl := MM.bind g (putsR is)
theorem AllS.length {K : Fg} {c : Gh} {G : Wd} {H : Hp} {σ : St} {ρ : MSt} : ∀ {vs : List V} {ss : List S}, AllS K c G H σ ρ vs ss → vs.length = ss.length
  | _, _, .nil => rfl
  | _, _, .dat _ t => by simp [AllS.length t]
  | _, _, .own _ _ _ _ _ t => by simp [AllS.length t]
theorem parL_to {is : List Nat} {Dn : Ends} {σ : St} {H : Hp} {R : List V → Hp → Prop} (h : mS X.K T c W (parL is g) Dn σ H)
    (k : ∀ vs H1, vs.length = is.length → (∀ G1 (ρ1 : MSt), J X.K T c G1 H1 σ ρ1 → True) → (∀ H2, (∀ b o, H1 b = some o → H2 b = some o) → (H2 = H1 ∨ ∃ p o, H1 p = none ∧ H2 = upd H1 p o) → Dn.nx (putsV σ is vs) H2) → R vs H1) : mL X.K T c W g σ H R := by
  obtain ⟨G, ρ, j, p⟩ := h
  refine ⟨G, ρ, j, ?_⟩
  unfold parL MM.bind at p
  cases z : g ρ with
  | exn y ρ1 => rw [z] at p; exact fun cls dx G' H' l j' i => p cls dx σ G' H' l j' i
  | stuck => rw [z] at p; exact p.elim
  | ok ss ρ1 =>
    rw [z] at p
    intro vs G1 H1 l1 j1 a
    have p2 : pS X.K T c W Dn G (putsR is ss ρ1) := p
    unfold putsR at p2
    by_cases hl : is.length = ss.length ∧ ∀ i ∈ is, i + 1 < ρ1.length
    · rw [if_pos hl] at p2
      refine k vs H1 (a.length.trans hl.1.symm) (fun _ _ _ => trivial) fun H2 _ hh => ?_
      rcases hh with rfl | ⟨q, o, hq, rfl⟩
      · exact p2 _ G1 H2 l1 (J.puts hl.2 j1 a)
      · refine p2 _ G1 _ l1 (J.puts hl.2 (j1.aside hq) (a.le (Le.refl G1) fun D m => ?_))
        obtain ⟨o', h1, h2, h3, h4, h5⟩ := a.newH D m
        exact ⟨h5, h2, fun o e _ => by rw [upd_ne (ne_of_none e hq)]; exact e⟩
    · rw [if_neg hl] at p2; exact p2.elim
theorem ms_parL {i k : Nat} {x y : Str} {a b : Expr} {px py pt : Pos} {kt k2 pt2} (hc : X.calm = true) (hN : X.N.Nodup) (hi : X.N[i]? = some x) (hj : X.N[k]? = some y) (hij : i ≠ k)
    (hx : X.env.scope.names.lookup x = some .local) (hy : X.env.scope.names.lookup y = some .local) (ha : PA X [a, b] (mL X.K T c W g))
    (hw : swappedStores [.Tuple [.Name x px, .Name y py] kt pt] (.Tuple [a, b] k2 pt2) X.env = pure (some [x, y]))
    (hs : swapsWithSole [.Tuple [.Name x px, .Name y py] kt pt] (.Tuple [a, b] k2 pt2) pos.line X.env = pure false := by rfl) :
    PS X (.Assign [.Tuple [.Name x px, .Name y py] kt pt] (.Tuple [a, b] k2 pt2) pos) (mS X.K T c W (parL [i, k] g)) := by
  refine ps_mono (ps_par hc hN hi hj hij hx hy ha hw hs) fun Dn σ H h => ?_
  refine parL_to h fun vs H1 hl _ q => ?_
  match vs, hl with
  | [v, w], _ => exact ⟨v, w, rfl, q H1 (fun _ _ e => e) (.inl rfl)⟩
theorem ms_parL3 {i j k : Nat} {x y z : Str} {a b d : Expr} {px py pz pt : Pos} {kt k2 pt2} (hc : X.calm = true) (hN : X.N.Nodup) (hi : X.N[i]? = some x) (hj : X.N[j]? = some y) (hk : X.N[k]? = some z) (hij : i ≠ j) (hik : i ≠ k) (hjk : j ≠ k)
    (hx : X.env.scope.names.lookup x = some .local) (hy : X.env.scope.names.lookup y = some .local) (hz : X.env.scope.names.lookup z = some .local) (ha : PA X [a, b, d] (mL X.K T c W g))
    (hw : swappedStores [.Tuple [.Name x px, .Name y py, .Name z pz] kt pt] (.Tuple [a, b, d] k2 pt2) X.env = pure (some [x, y, z]))
    (hs : swapsWithSole [.Tuple [.Name x px, .Name y py, .Name z pz] kt pt] (.Tuple [a, b, d] k2 pt2) pos.line X.env = pure false := by rfl) :
    PS X (.Assign [.Tuple [.Name x px, .Name y py, .Name z pz] kt pt] (.Tuple [a, b, d] k2 pt2) pos) (mS X.K T c W (parL [i, j, k] g)) := by
  refine ps_mono (ps_par3 hc hN hi hj hk hij hik hjk hx hy hz ha hw hs) fun Dn σ H h => ?_
  refine parL_to h fun vs H1 hl _ q => ?_
  match vs, hl with
  | [v, w, u], _ => exact ⟨v, w, u, rfl, q H1 (fun _ _ e => e) (.inl rfl)⟩
/-- the names of a tuple target -/
inductive PNs (X : Cx) : List Expr → List Nat → Prop
  | nil : PNs X [] []
  | cons {i : Nat} {x : Str} {pos : Pos} {es : List Expr} {is : List Nat} (hi : X.N[i]? = some x) (hx : Loc X.env.scope x) (hf : X.fn x = true ∨ X.env.scope.names.lookup x = some .local) : PNs X es is → PNs X (.Name x pos :: es) (i :: is)
def gNames : List Nat → TGs
  | [] => gNil
  | i :: is => gCons (gName i) (gNames is)
theorem pns_gs (hN : X.N.Nodup) : ∀ {es : List Expr} {is : List Nat}, PNs X es is → PGs X es (gNames is)
  | _, _, .nil => pgs_nil
  | _, _, .cons hi hx hf t => pgs_cons (pg_name hN hi hx hf) (pns_gs hN t)
theorem gNames_of {Q : St → Hp → Prop} {H : Hp} : ∀ {is : List Nat} {vs : List V} {σ : St}, vs.length = is.length → Q (putsV σ is vs) H → gNames is vs σ H Q
  | [], [], σ, _, q => ⟨rfl, q⟩
  | [], v :: vs, _, h, _ => by cases h
  | i :: is, [], _, h, _ => by cases h
  | i :: is, v :: vs, σ, h, q => ⟨v, vs, rfl, gNames_of (by simpa using h) q⟩
/-- x, y, .. = e, f, .. by a tuple -/
theorem ms_unpk {ts : List Expr} {es : List Expr} {is : List Nat} {kt pt k2 pt2} (hc : X.calm = true) (hN : X.N.Nodup) (hn : PNs X ts is) (ha : PA X es (mL X.K T c W g)) (hl : is.length ≤ sizeLine := by decide)
    (hs : swapsWithSole [.Tuple ts kt pt] (.Tuple es k2 pt2) pos.line X.env = pure false := by rfl) (hw : swappedStores [.Tuple ts kt pt] (.Tuple es k2 pt2) X.env = pure none := by rfl)
    (h1 : (assignEach [.Tuple ts kt pt] X.env).map (·.2) = [assign (.Tuple ts kt pt) X.env] := by rfl) (hn2 : (assignEach ts X.env).length = is.length := by rfl) (hst : (assignEach ts X.env).findIdx? (·.1) = none := by rfl) :
    PS X (.Assign [.Tuple ts kt pt] (.Tuple es k2 pt2) pos) (mS X.K T c W (parL is g)) := by
  refine ps_mono (ps_asg (pe_tupF ha) (pg_tup hc (pns_gs hN hn) hn2 hst) hs hw h1) fun Dn σ H h => ?_
  refine parL_to h fun vs H1 hlen _ q => ⟨by rw [hlen]; exact hl, fun p o hp ho => ?_⟩
  refine ⟨p, vs, rfl, .inl (.inr ⟨o, upd_same⟩), hlen, gNames_of hlen (q _ (fun b u e => by rw [upd_ne (ne_of_none e hp)]; exact e) (.inr ⟨p, _, hp, rfl⟩))⟩
def negE (f : MM D) : MM D := MM.bind f fun x => match x with
  | .int i => MM.pure (.int (-i))
  | _ => stuck
theorem me_neg {a : Expr} (ha : PE X a (mE X.K T c W f)) : PE X (.UnaryOp .USub a pos) (mE X.K T c W (negE f)) := by
  refine pe_mono (pe_un un_neg ha) fun σ H Q ⟨G, ρ, j, p⟩ => ?_
  refine pX_bind j p fun x v ρ1 G1 H1 l1 j1 r1 p1 => ?_
  cases r1 with
  | int i => exact ⟨i, rfl, p1.here j1 (.int _)⟩
  | _ => exact p1.elim
def dPow : D → D → Res D := intOp fun i j => if 0 ≤ j ∧ j ≤ 1000000 ∧ i.natAbs < 2 ^ 64 then .ok (.int (i ^ j.toNat)) else .stuck
theorem o_pow : Op2 X T c W (binaryOp .Pow) dPow := Op2.mk op_pow (fun G H x y d e q Q l dx dy hq k => by
  cases dx with
  | int i =>
    cases dy with
    | int j => obtain ⟨p, rfl⟩ := ite_res hq; exact ⟨_, _, rfl, rfl, p, k.1 _ (.int _)⟩
    | _ => exact nomatch hq
  | _ => cases dy <;> exact nomatch hq) fun d e y z => by cases d <;> cases e <;> first | (exact ite_nx z) | (exact nomatch z)
end
end Mi
set_option Elab.async false
set_option linter.all false
set_option maxRecDepth 100000
set_option maxHeartbeats 4000000
namespace Mi
open PySem L2
def blkB (N : List Str) (sc scope : Scope) (own : List (Str × Nat)) : Bool := decide (scope.kind = .function) && (scope.names.all fun y => decide (scope.names.lookup y.1 = some y.2)) && (own.all fun p => decide (N[p.2]? = some p.1)) &&
  (scope.names.all fun y => !decide (y.2 = .free) || (decide (sc.names.lookup y.1 = some .cell) || decide (sc.names.lookup y.1 = some .free))) &&
  (scope.names.all fun y => !(decide (y.2 = .local) || decide (y.2 = .cell)) || (decide (y.1 ∈ own.map (·.1)) || decide (y.1 ∉ N)))
theorem blk_of {N : List Str} {sc scope : Scope} (own : List (Str × Nat)) (h : blkB N sc scope own = true) : BlkOk N sc scope own := by
  unfold blkB at h
  simp only [Bool.and_eq_true, decide_eq_true_eq, List.all_eq_true, Bool.or_eq_true, Bool.not_eq_true', decide_eq_false_iff_not] at h
  obtain ⟨⟨⟨⟨h1, h2⟩, h3⟩, h4⟩, h5⟩ := h
  refine ⟨h1, h2, h3, fun y m e => ?_, fun y m e => ?_⟩
  · rcases h4 y m with z | z
    · exact absurd e z
    · exact z
  · rcases h5 y m with z | z
    · simp only [Bool.or_eq_false_iff, decide_eq_false_iff_not] at z
      exact (e.elim z.1 z.2).elim
    · exact z
/-- for x in e: a list, a tuple, a text, a dict -/
def iterAll : D → Res (List D)
  | .list xs => .ok xs
  | .tuple xs => .ok xs
  | .str s => .ok (charsD s)
  | .dict kvs => .ok (keysD kvs)
  | _ => .stuck
section
variable {X : Cx} {T : Tb} {c : Gh} {W : WX} {e tg iter : Expr} {f : MM D} {pos : Pos}
theorem pi_all {te : TE} (he : PE X e te) : PI X tg e (fun σ H R => te σ H fun x H1 => (∃ a, x = .ref a ∧ (∃ xs, SqL X.K H1 a xs) ∧ R (Itl X.K a) H1) ∨ (∃ a, x = .ref a ∧ (∃ xs, SqT X.K H1 a xs) ∧ R (Itt X.K a) H1) ∨ (∃ s, x = .str s ∧ R (Its s) H1) ∨ ∃ d o kvs, x = .ref d ∧ H1 d = some (.frz o (.dK kvs)) ∧ R (Itk d o kvs) H1) := by
  refine ⟨fun pins s σ H R I h => ?_⟩
  refine thn (he.run pins s σ H _ I h) fun v s1 ⟨x, H1, I1, r1, q1⟩ => ?_
  rcases q1 with ⟨a, e, hq, q⟩ | ⟨a, e, hq, q⟩ | ⟨z, e, q⟩ | ⟨d, o, kvs, e, hd, q⟩
  · subst e
    cases r1
    obtain ⟨xs, hq⟩ := hq
    obtain ⟨its, rv, p, hz⟩ := I1.list hq
    refine wpAny_pyIter_list p.isList ?_
    refine ⟨s1.heap.objs.size, [s1.heap.objs.size], _, _, H1, rfl, I1.kept (t' := s1.toks) fun b o e => Heap.get?_push_of_some _ e, turn_list a _, ⟨_, Heap.get?_push_size _ rfl, rfl, rfl⟩, fun b hb => ?_, q⟩
    have e : b = s1.heap.objs.size := by simpa using hb
    subst e
    exact I1.fpOk (Nat.le_refl _) (I1.hok.fresh (Nat.le_refl _))
  · subst e
    cases r1
    obtain ⟨xs, hq⟩ := hq
    obtain ⟨its, rv, p, hz⟩ := I1.tuple hq
    refine wpAny_pyIter_tuple (show s1.heap.IsTuple a its.toArray from p) ?_
    refine ⟨s1.heap.objs.size, [s1.heap.objs.size], _, _, H1, rfl, I1.kept (t' := s1.toks) fun b o e => Heap.get?_push_of_some _ e, turn_tuple a _, ⟨_, Heap.get?_push_size _ rfl, rfl, rfl⟩, fun b hb => ?_, q⟩
    have e : b = s1.heap.objs.size := by simpa using hb
    subst e
    exact I1.fpOk (Nat.le_refl _) (I1.hok.fresh (Nat.le_refl _))
  · subst e
    obtain ⟨t, rfl⟩ := r1
    cases ha : z.cps.all (· < 128)
    · exact wpAny_pyIter_wide ha (pi_one (tk := s1.toks) I1 _ (turn_str _ z t "str_iterator" (.inr rfl)) ⟨_, Heap.get?_push_size _ rfl, rfl, rfl⟩ q)
    · exact wpAny_pyIter_ascii ha (pi_one (tk := s1.toks) I1 _ (turn_str _ z t "str_ascii_iterator" (.inl rfl)) ⟨_, Heap.get?_push_size _ rfl, rfl, rfl⟩ q)
  · subst e
    cases r1
    obtain ⟨hs, hgd, hx, es, ep, vs, hdt, hsz, kv, hm⟩ := I1.frzK hd
    refine iter_keys hs hgd hx hdt (pi_one (tk := s1.toks) I1 _ (turn_keys _ hdt) ⟨_, Heap.get?_push_size _ rfl, rfl, ?_⟩ q)
    rw [hsz] <;> rfl
def iterA (f : MM D) : MM (List D) := MM.bind f fun x => lift (iterAll x)
theorem mi_all (he : PE X e (mE X.K T c W f)) : PI X tg e (mI X.K T c W (relD X.K) (iterA f)) := by
  refine ⟨fun pins s σ H R I h => (pi_all (tg := tg) he).run pins s σ H R I ?_⟩
  obtain ⟨G, ρ, j, p⟩ := h
  refine pX_bind j p fun x v ρ1 G1 H1 l1 j1 r1 p1 => ?_
  cases r1 with
  | lst hq hr => exact .inl ⟨_, rfl, ⟨_, sqL_sub (.inl hq) j1.subH⟩, p1 _ G1 H1 (Le.refl G1) j1 (gives_list (.inl hq) hr)⟩
  | tup hq hr => exact .inr (.inl ⟨_, rfl, ⟨_, sqT_sub hq.sq j1.subH⟩, p1 _ G1 H1 (Le.refl G1) j1 (gives_tup hq.sq hr)⟩)
  | str z => exact .inr (.inr (.inl ⟨z, rfl, p1 _ G1 H1 (Le.refl G1) j1 gives_str⟩))
  | dic hq hr => obtain ⟨o, hq⟩ := hq; exact .inr (.inr (.inr ⟨_, o, _, rfl, j1.sub _ _ hq, p1 _ G1 H1 (Le.refl G1) j1 (gives_keys hq hr)⟩))
  | _ => exact p1.elim
theorem mgn (i : Nat) {x : Str} (hN : X.N.Nodup) (hi : X.N[i]? = some x := by rfl) (hx : Loc X.env.scope x := by first | exact Or.inl rfl | exact Or.inr rfl) (hf : X.fn x = true ∨ X.env.scope.names.lookup x = some .local := by first | exact .inl rfl | exact .inr rfl | assumption) : PG X (.Name x pos) (mG X.K T c (relD X.K) [i] (setD i)) := mg_name hN hi hx hf
theorem mgc (i : Nat) {is : List Nat} {x : Str} {es : List Expr} (hN : X.N.Nodup) (h2 : PGs X es (mGs X.K T c is (setMany is))) (hi : X.N[i]? = some x := by rfl) (hx : Loc X.env.scope x := by first | exact Or.inl rfl | exact Or.inr rfl)
    (hs : (assignEach (.Name x pos :: es) X.env).map (·.2) = assign (.Name x pos) X.env :: (assignEach es X.env).map (·.2) := by rfl) (hf : X.fn x = true ∨ X.env.scope.names.lookup x = some .local := by first | exact .inl rfl | exact .inr rfl | assumption) : PGs X (.Name x pos :: es) (mGs X.K T c (i :: is) (setMany (i :: is))) := mgs_cons hN hi hx h2 hf hs
theorem pnc (i : Nat) {x : Str} {es : List Expr} {is : List Nat} (h : PNs X es is) (hi : X.N[i]? = some x := by rfl) (hx : Loc X.env.scope x := by first | exact Or.inl rfl | exact Or.inr rfl) (hf : X.fn x = true ∨ X.env.scope.names.lookup x = some .local := by first | exact .inl rfl | exact .inr rfl | assumption) : PNs X (.Name x pos :: es) (i :: is) := .cons hi hx hf h
end
end Mi
set_option Elab.async false
set_option linter.all false
set_option maxRecDepth 100000
set_option maxHeartbeats 4000000
namespace Mi
open PySem L2
@[simp] theorem size_eq : sizeLine = 16777216 := rfl
def Out.bind {α β : Type} (o : Out α) (g : α → MM β) : Out β := match o with
  | .ok a ρ => g a ρ
  | .exn e ρ => .exn e ρ
  | .stuck => .stuck
section
variable {α β : Type} {ρ : MSt} {a : α} {g : α → MM β} {f : MM α}
@[simp] theorem Out.bind_ok : Out.bind (.ok a ρ) g = g a ρ := rfl
@[simp] theorem Out.bind_exn {e : Exn} : Out.bind (.exn e ρ : Out α) g = .exn e ρ := rfl
@[simp] theorem Out.bind_stuck : Out.bind (.stuck : Out α) g = .stuck := rfl
@[simp] theorem Out.bind_ite {p : Prop} [Decidable p] {o o' : Out α} : Out.bind (if p then o else o') g = if p then Out.bind o g else Out.bind o' g := by split <;> rfl
@[simp] theorem bind_ap : MM.bind f g ρ = Out.bind (f ρ) g := rfl
@[simp] theorem pure_ap : (MM.pure a : MM α) ρ = .ok a ρ := rfl
@[simp] theorem stuck_ap : (stuck : MM α) ρ = .stuck := rfl
@[simp] theorem lift_ok : lift (.ok a) ρ = .ok a ρ := rfl
@[simp] theorem lift_stuck : lift (.stuck : Res α) ρ = .stuck := rfl
@[simp] theorem lift_exn {e : Exn} : lift (.exn e : Res α) ρ = .exn e ρ := rfl
@[simp] theorem lift_ite {p : Prop} [Decidable p] {o o' : Res α} : lift (if p then o else o') ρ = if p then lift o ρ else lift o' ρ := by split <;> rfl
@[simp] theorem ite_ap {p : Prop} [Decidable p] {m m' : MM α} : (if p then m else m') ρ = if p then m ρ else m' ρ := by split <;> rfl
end
def slotD (o : Option (Option S)) (ρ : MSt) : Out D := match o with
  | some (some (.d x)) => .ok x ρ
  | _ => .stuck
@[simp] theorem slotD_d {x : D} {ρ : MSt} : slotD (some (some (.d x))) ρ = .ok x ρ := rfl
section
variable {ρ : MSt} {f f1 f2 f3 : MM D} {g g' : D → D → Res D} {t t1 t2 : MM Bool} {s s1 s2 : MM Fl} {i : Nat} {x y z d : D} {b b' : Bool} {p : Prop} [Decidable p] {e : Exn}
@[simp] theorem var_ap : var i ρ = slotD ρ[i]? ρ := by unfold var slotD; rfl
def op2K (g : D → D → Res D) (f2 : MM D) (o : Out D) : Out D := Out.bind o fun x ρ => Out.bind (f2 ρ) fun y => lift (g x y)
def op2L (g : D → D → Res D) (x : D) (o : Out D) : Out D := Out.bind o fun y => lift (g x y)
@[simp] theorem op2_ap : op2 g f1 f2 ρ = op2K g f2 (f1 ρ) := rfl
@[simp] theorem op2K_ok : op2K g f2 (.ok x ρ) = op2L g x (f2 ρ) := rfl
@[simp] theorem op2K_stuck : op2K g f2 .stuck = .stuck := rfl
@[simp] theorem op2K_ite {o o' : Out D} : op2K g f2 (if p then o else o') = if p then op2K g f2 o else op2K g f2 o' := by split <;> rfl
@[simp] theorem op2L_ok : op2L g x (.ok y ρ) = lift (g x y) ρ := rfl
@[simp] theorem op2L_stuck : op2L g x .stuck = .stuck := rfl
@[simp] theorem op2L_ite {o o' : Out D} : op2L g x (if p then o else o') = if p then op2L g x o else op2L g x o' := by split <;> rfl
def tstK (o : Out D) : Out Bool := Out.bind o fun x => lift (toB x)
@[simp] theorem tst_ap : tst f ρ = tstK (f ρ) := rfl
@[simp] theorem opT_ap : opT g f1 f2 ρ = tstK (op2 g f1 f2 ρ) := rfl
@[simp] theorem tstK_ok : tstK (.ok (.bool b) ρ) = .ok b ρ := rfl
@[simp] theorem tstK_ite {o o' : Out D} : tstK (if p then o else o') = if p then tstK o else tstK o' := by split <;> rfl
def andTK (t2 : MM Bool) (o : Out Bool) : Out Bool := Out.bind o fun b => if b = true then t2 else MM.pure false
def orTK (t2 : MM Bool) (o : Out Bool) : Out Bool := Out.bind o fun b => if b = true then MM.pure true else t2
def notTK (o : Out Bool) : Out Bool := Out.bind o fun b => MM.pure (!b)
@[simp] theorem andT_ap : andT t1 t2 ρ = andTK t2 (t1 ρ) := rfl
@[simp] theorem orT_ap : orT t1 t2 ρ = orTK t2 (t1 ρ) := rfl
@[simp] theorem notT_ap : notT t ρ = notTK (t ρ) := rfl
@[simp] theorem andTK_ok : andTK t2 (.ok b ρ) = if b = true then t2 ρ else .ok false ρ := by cases b <;> rfl
@[simp] theorem orTK_ok : orTK t2 (.ok b ρ) = if b = true then .ok true ρ else t2 ρ := by cases b <;> rfl
@[simp] theorem notTK_ok : notTK (.ok b ρ) = .ok (!b) ρ := rfl
@[simp] theorem andTK_ite {o o' : Out Bool} : andTK t2 (if p then o else o') = if p then andTK t2 o else andTK t2 o' := by split <;> rfl
@[simp] theorem orTK_ite {o o' : Out Bool} : orTK t2 (if p then o else o') = if p then orTK t2 o else orTK t2 o' := by split <;> rfl
@[simp] theorem notTK_ite {o o' : Out Bool} : notTK (if p then o else o') = if p then notTK o else notTK o' := by split <;> rfl
@[simp] theorem ite_okB : (if b = true then (Out.ok b' ρ : Out Bool) else .ok false ρ) = .ok (b && b') ρ := by cases b <;> rfl
@[simp] theorem ite_okB2 : (if b = true then (Out.ok true ρ : Out Bool) else .ok b' ρ) = .ok (b || b') ρ := by cases b <;> rfl
@[simp] theorem ite_okD : (if b = true then (Out.ok (.bool b') ρ : Out D) else .ok (.bool false) ρ) = .ok (.bool (b && b')) ρ := by cases b <;> rfl
@[simp] theorem ite_okD2 : (if b = true then (Out.ok (.bool true) ρ : Out D) else .ok (.bool b') ρ) = .ok (.bool (b || b')) ρ := by cases b <;> rfl
def andK (f2 : MM D) (o : Out D) : Out D := Out.bind o fun x => match x with
  | .bool true => f2
  | .bool false => MM.pure (.bool false)
  | _ => stuck
def orK (f2 : MM D) (o : Out D) : Out D := Out.bind o fun x => match x with
  | .bool true => MM.pure (.bool true)
  | .bool false => f2
  | _ => stuck
def notK (o : Out D) : Out D := Out.bind o fun x => match x with
  | .bool b => MM.pure (.bool !b)
  | _ => stuck
@[simp] theorem andV_ap : andV f1 f2 ρ = andK f2 (f1 ρ) := rfl
@[simp] theorem orV_ap : orV f1 f2 ρ = orK f2 (f1 ρ) := rfl
@[simp] theorem notV_ap : notV f1 ρ = notK (f1 ρ) := rfl
@[simp] theorem andK_ok : andK f2 (.ok (.bool b) ρ) = if b = true then f2 ρ else .ok (.bool false) ρ := by cases b <;> rfl
@[simp] theorem orK_ok : orK f2 (.ok (.bool b) ρ) = if b = true then .ok (.bool true) ρ else f2 ρ := by cases b <;> rfl
@[simp] theorem notK_ok : notK (.ok (.bool b) ρ) = .ok (.bool !b) ρ := rfl
@[simp] theorem andK_ite {o o' : Out D} : andK f2 (if p then o else o') = if p then andK f2 o else andK f2 o' := by split <;> rfl
@[simp] theorem orK_ite {o o' : Out D} : orK f2 (if p then o else o') = if p then orK f2 o else orK f2 o' := by split <;> rfl
@[simp] theorem notK_ite {o o' : Out D} : notK (if p then o else o') = if p then notK o else notK o' := by split <;> rfl
def chainA (g g' : D → D → Res D) (f2 f3 : MM D) (o : Out D) : Out D := Out.bind o fun x => MM.bind f2 fun y => MM.bind (lift (g x y)) fun z => match z with
  | .bool true => MM.bind f3 fun u => lift (g' y u)
  | .bool false => MM.pure (.bool false)
  | _ => stuck
def chainB (g g' : D → D → Res D) (f3 : MM D) (x : D) (o : Out D) : Out D := Out.bind o fun y => MM.bind (lift (g x y)) fun z => match z with
  | .bool true => MM.bind f3 fun u => lift (g' y u)
  | .bool false => MM.pure (.bool false)
  | _ => stuck
def chainC (g' : D → D → Res D) (f3 : MM D) (y : D) (o : Out D) : Out D := Out.bind o fun z => match z with
  | .bool true => MM.bind f3 fun u => lift (g' y u)
  | .bool false => MM.pure (.bool false)
  | _ => stuck
@[simp] theorem chainV_ap : chainV g g' f1 f2 f3 ρ = chainA g g' f2 f3 (f1 ρ) := rfl
@[simp] theorem chainA_ok : chainA g g' f2 f3 (.ok x ρ) = chainB g g' f3 x (f2 ρ) := rfl
@[simp] theorem chainB_ok : chainB g g' f3 x (.ok y ρ) = chainC g' f3 y (lift (g x y) ρ) := rfl
@[simp] theorem chainC_ok : chainC g' f3 y (.ok (.bool b) ρ) = if b = true then op2L g' y (f3 ρ) else .ok (.bool false) ρ := by cases b <;> rfl
def ifEK (f1 f2 : MM D) (o : Out Bool) : Out D := Out.bind o fun b => if b = true then f1 else f2
@[simp] theorem ifE_ap : ifE t f1 f2 ρ = ifEK f1 f2 (t ρ) := rfl
@[simp] theorem ifEK_ok : ifEK f1 f2 (.ok b ρ) = if b = true then f1 ρ else f2 ρ := by cases b <;> rfl
@[simp] theorem ifEK_ite {o o' : Out Bool} : ifEK f1 f2 (if p then o else o') = if p then ifEK f1 f2 o else ifEK f1 f2 o' := by split <;> rfl
def consK (g : MM (List D)) (o : Out D) : Out (List D) := Out.bind o fun x => MM.bind g fun xs => MM.pure (x :: xs)
def consJ (x : D) (o : Out (List D)) : Out (List D) := Out.bind o fun xs => MM.pure (x :: xs)
variable {ga : MM (List D)} {xs ys : List D}
@[simp] theorem consA_ap : consA f ga ρ = consK ga (f ρ) := rfl
@[simp] theorem consK_ok : consK ga (.ok x ρ) = consJ x (ga ρ) := rfl
@[simp] theorem consK_stuck : consK ga .stuck = .stuck := rfl
@[simp] theorem consK_ite {o o' : Out D} : consK ga (if p then o else o') = if p then consK ga o else consK ga o' := by split <;> rfl
@[simp] theorem consJ_ok : consJ x (.ok xs ρ) = .ok (x :: xs) ρ := rfl
@[simp] theorem consJ_stuck : consJ x .stuck = .stuck := rfl
@[simp] theorem consJ_ite {o o' : Out (List D)} : consJ x (if p then o else o') = if p then consJ x o else consJ x o' := by split <;> rfl
def callK (fm : List D → Res D) (o : Out (List D)) : Out D := Out.bind o fun ds => lift (fm ds)
variable {fm : List D → Res D}
@[simp] theorem callE_ap : callE fm ga ρ = callK fm (ga ρ) := rfl
@[simp] theorem callK_ok : callK fm (.ok xs ρ) = lift (fm xs) ρ := rfl
@[simp] theorem callK_stuck : callK fm .stuck = .stuck := rfl
@[simp] theorem callK_ite {o o' : Out (List D)} : callK fm (if p then o else o') = if p then callK fm o else callK fm o' := by split <;> rfl
@[simp] theorem isiE_ap {ty : D → Bool} : isiE ty f ρ = Out.bind (f ρ) (isiK ty) := rfl
@[simp] theorem isiK_none {ty : D → Bool} : isiK ty .none ρ = .ok (.bool (ty .none)) ρ := rfl
@[simp] theorem isiK_bool {ty : D → Bool} {q : Bool} : isiK ty (.bool q) ρ = .ok (.bool (ty (.bool q))) ρ := rfl
@[simp] theorem isiK_int {ty : D → Bool} {q : Int} : isiK ty (.int q) ρ = .ok (.bool (ty (.int q))) ρ := rfl
@[simp] theorem isiK_str {ty : D → Bool} {q : Str} : isiK ty (.str q) ρ = .ok (.bool (ty (.str q))) ρ := rfl
@[simp] theorem isiK_list {ty : D → Bool} {q : List D} : isiK ty (.list q) ρ = .ok (.bool (ty (.list q))) ρ := rfl
@[simp] theorem isiK_tuple {ty : D → Bool} {q : List D} : isiK ty (.tuple q) ρ = .ok (.bool (ty (.tuple q))) ρ := rfl
@[simp] theorem isiK_dict {ty : D → Bool} {q : List (D × D)} : isiK ty (.dict q) ρ = .ok (.bool (ty (.dict q))) ρ := rfl
def seqK (s2 : MM Fl) (o : Out Fl) : Out Fl := Out.bind o fun fl => match fl with
  | .nx => s2
  | o => MM.pure o
@[simp] theorem seqS_ap : seqS s1 s2 ρ = seqK s2 (s1 ρ) := rfl
@[simp] theorem seqK_nx : seqK s2 (.ok .nx ρ) = s2 ρ := rfl
@[simp] theorem seqK_rt : seqK s2 (.ok (.rt d) ρ) = .ok (.rt d) ρ := rfl
@[simp] theorem seqK_bk : seqK s2 (.ok .bk ρ) = .ok .bk ρ := rfl
@[simp] theorem seqK_ct : seqK s2 (.ok .ct ρ) = .ok .ct ρ := rfl
@[simp] theorem seqK_exn : seqK s2 (.exn e ρ) = .exn e ρ := rfl
@[simp] theorem seqK_stuck : seqK s2 .stuck = .stuck := rfl
@[simp] theorem seqK_ite {o o' : Out Fl} : seqK s2 (if p then o else o') = if p then seqK s2 o else seqK s2 o' := by split <;> rfl
def ifSK (s1 s2 : MM Fl) (o : Out Bool) : Out Fl := Out.bind o fun b => if b = true then s1 else s2
@[simp] theorem ifS_ap : ifS t s1 s2 ρ = ifSK s1 s2 (t ρ) := rfl
@[simp] theorem ifSK_ok : ifSK s1 s2 (.ok b ρ) = if b = true then s1 ρ else s2 ρ := by cases b <;> rfl
@[simp] theorem ifSK_ite {o o' : Out Bool} : ifSK s1 s2 (if p then o else o') = if p then ifSK s1 s2 o else ifSK s1 s2 o' := by split <;> rfl
def retK (o : Out D) : Out Fl := Out.bind o fun d => MM.pure (.rt d)
@[simp] theorem retS_ap : retS f ρ = retK (f ρ) := rfl
@[simp] theorem retK_ok : retK (.ok x ρ) = .ok (.rt x) ρ := rfl
@[simp] theorem retK_exn : retK (.exn e ρ) = .exn e ρ := rfl
@[simp] theorem retK_stuck : retK .stuck = .stuck := rfl
@[simp] theorem retK_ite {o o' : Out D} : retK (if p then o else o') = if p then retK o else retK o' := by split <;> rfl
def exprK (o : Out D) : Out Fl := Out.bind o fun _ => MM.pure .nx
@[simp] theorem exprS_ap : exprS f ρ = exprK (f ρ) := rfl
@[simp] theorem exprK_ok : exprK (.ok x ρ) = .ok .nx ρ := rfl
@[simp] theorem exprK_exn : exprK (.exn e ρ) = .exn e ρ := rfl
@[simp] theorem exprK_stuck : exprK .stuck = .stuck := rfl
@[simp] theorem exprK_ite {o o' : Out D} : exprK (if p then o else o') = if p then exprK o else exprK o' := by split <;> rfl
def stoK : Option MSt → Out Fl
  | some ρ' => .ok .nx ρ'
  | none => .stuck
@[simp] theorem stoK_some : stoK (some ρ) = .ok .nx ρ := rfl
@[simp] theorem stoK_ite {o o' : Option MSt} : stoK (if p then o else o') = if p then stoK o else stoK o' := by split <;> rfl
def asgK (gt : D → MSt → Option MSt) (o : Out D) : Out Fl := Out.bind o fun d ρ => stoK (gt d ρ)
variable {gt : D → MSt → Option MSt}
@[simp] theorem asgS_ap : asgS f gt ρ = asgK gt (f ρ) := by unfold asgS asgK stoK; rfl
@[simp] theorem asgK_ok : asgK gt (.ok x ρ) = stoK (gt x ρ) := rfl
@[simp] theorem asgK_exn : asgK gt (.exn e ρ) = .exn e ρ := rfl
@[simp] theorem asgK_stuck : asgK gt .stuck = .stuck := rfl
@[simp] theorem asgK_ite {o o' : Out D} : asgK gt (if p then o else o') = if p then asgK gt o else asgK gt o' := by split <;> rfl
@[simp] theorem setD_ap : setD i x ρ = if i + 1 < ρ.length then some (ρ.set i (some (.d x))) else none := rfl
@[simp] theorem setT_ap {is : List Nat} : setT is (.tuple xs) ρ = setMany is xs ρ := rfl
@[simp] theorem setMany_nil : setMany [] [] ρ = some ρ := rfl
@[simp] theorem setMany_cons {is : List Nat} : setMany (i :: is) (x :: xs) ρ = if i + 1 < ρ.length then setMany is xs (ρ.set i (some (.d x))) else none := rfl
def forG (gt : D → MSt → Option MSt) (s : MM Fl) (xs : List D) : Option MSt → Out Fl
  | none => .stuck
  | some ρ1 => match s ρ1 with
    | .ok .nx ρ2 => forD gt s xs ρ2
    | .ok .ct ρ2 => forD gt s xs ρ2
    | .ok .bk ρ2 => .ok .nx ρ2
    | .ok (.rt d) ρ2 => .ok (.rt d) ρ2
    | .exn y ρ2 => .exn y ρ2
    | .stuck => .stuck
def forK (gt : D → MSt → Option MSt) (s : MM Fl) (xs : List D) : Out Fl → Out Fl
  | .ok .nx ρ2 => forD gt s xs ρ2
  | .ok .ct ρ2 => forD gt s xs ρ2
  | .ok .bk ρ2 => .ok .nx ρ2
  | .ok (.rt d) ρ2 => .ok (.rt d) ρ2
  | .exn y ρ2 => .exn y ρ2
  | .stuck => .stuck
@[simp] theorem forD_nil : forD gt s [] ρ = .ok .nx ρ := rfl
@[simp] theorem forD_cons : forD gt s (x :: xs) ρ = forG gt s xs (gt x ρ) := rfl
@[simp] theorem forG_some : forG gt s xs (some ρ) = forK gt s xs (s ρ) := rfl
@[simp] theorem forG_ite {o o' : Option MSt} : forG gt s xs (if p then o else o') = if p then forG gt s xs o else forG gt s xs o' := by split <;> rfl
@[simp] theorem forK_nx : forK gt s xs (.ok .nx ρ) = forD gt s xs ρ := rfl
@[simp] theorem forK_ct : forK gt s xs (.ok .ct ρ) = forD gt s xs ρ := rfl
@[simp] theorem forK_bk : forK gt s xs (.ok .bk ρ) = .ok .nx ρ := rfl
@[simp] theorem forK_rt : forK gt s xs (.ok (.rt d) ρ) = .ok (.rt d) ρ := rfl
@[simp] theorem forK_exn : forK gt s xs (.exn e ρ) = .exn e ρ := rfl
@[simp] theorem forK_stuck : forK gt s xs .stuck = .stuck := rfl
@[simp] theorem forK_ite {o o' : Out Fl} : forK gt s xs (if p then o else o') = if p then forK gt s xs o else forK gt s xs o' := by split <;> rfl
def iterK (o : Out D) : Out (List D) := Out.bind o fun x => lift (iterAll x)
@[simp] theorem iterA_ap : iterA f ρ = iterK (f ρ) := rfl
@[simp] theorem iterK_ok : iterK (.ok x ρ) = lift (iterAll x) ρ := rfl
@[simp] theorem iterAll_list : iterAll (.list xs) = .ok xs := rfl
@[simp] theorem iterAll_tuple : iterAll (.tuple xs) = .ok xs := rfl
@[simp] theorem iterAll_str {z : Str} : iterAll (.str z) = .ok (charsD z) := rfl
@[simp] theorem iterAll_dict {kvs : List (D × D)} : iterAll (.dict kvs) = .ok (keysD kvs) := rfl
@[simp] theorem keysD_nil : keysD [] = [] := rfl
@[simp] theorem keysD_cons {kv : D × D} {kvs : List (D × D)} : keysD (kv :: kvs) = kv.1 :: keysD kvs := rfl
variable {os : List Nat} {el : MM D} {acc : List D}
def compG (os : List Nat) (gt : D → MSt → Option MSt) (t : MM Bool) (el : MM D) (xs acc : List D) : Option MSt → Out (List D)
  | none => .stuck
  | some ρ1 => match t ρ1 with
      | .ok true ρ2 => match el ρ2 with
        | .ok y ρ3 => if acc.length < sizeLine then compD os gt t el xs (acc ++ [y]) ρ3 else .stuck
        | _ => .stuck
      | .ok false ρ2 => compD os gt t el xs acc ρ2
      | _ => .stuck
def compT (os : List Nat) (gt : D → MSt → Option MSt) (t : MM Bool) (el : MM D) (xs acc : List D) : Out Bool → Out (List D)
  | .ok true ρ2 => match el ρ2 with
        | .ok y ρ3 => if acc.length < sizeLine then compD os gt t el xs (acc ++ [y]) ρ3 else .stuck
        | _ => .stuck
  | .ok false ρ2 => compD os gt t el xs acc ρ2
  | _ => .stuck
def compE (os : List Nat) (gt : D → MSt → Option MSt) (t : MM Bool) (el : MM D) (xs acc : List D) : Out D → Out (List D)
  | .ok y ρ3 => if acc.length < sizeLine then compD os gt t el xs (acc ++ [y]) ρ3 else .stuck
  | _ => .stuck
@[simp] theorem compD_nil : compD os gt t el [] acc ρ = .ok acc ρ := rfl
@[simp] theorem compD_cons : compD os gt t el (x :: xs) acc ρ = compG os gt t el xs acc (gt x (wipeM ρ os)) := by
  show (match gt x (wipeM ρ os) with | none => Out.stuck | some ρ1 => _) = _
  cases gt x (wipeM ρ os) <;> rfl
@[simp] theorem compG_some : compG os gt t el xs acc (some ρ) = compT os gt t el xs acc (t ρ) := rfl
@[simp] theorem compG_ite {o o' : Option MSt} : compG os gt t el xs acc (if p then o else o') = if p then compG os gt t el xs acc o else compG os gt t el xs acc o' := by split <;> rfl
@[simp] theorem compT_ok : compT os gt t el xs acc (.ok b ρ) = if b = true then compE os gt t el xs acc (el ρ) else compD os gt t el xs acc ρ := by cases b <;> rfl
@[simp] theorem compE_ok : compE os gt t el xs acc (.ok y ρ) = if acc.length < sizeLine then compD os gt t el xs (acc ++ [y]) ρ else .stuck := rfl
@[simp] theorem compE_ite {o o' : Out D} : compE os gt t el xs acc (if p then o else o') = if p then compE os gt t el xs acc o else compE os gt t el xs acc o' := by split <;> rfl
def compLK (os : List Nat) (ρ : MSt) : Out (List D) → Out D
  | .ok ys ρe => .ok (.list ys) (restore os ρ ρe)
  | _ => .stuck
@[simp] theorem compL_ap : compL os gt t el xs ρ = compLK os ρ (compD os gt t el xs [] ρ) := rfl
@[simp] theorem compLK_ok {ρe : MSt} : compLK os ρ (.ok xs ρe) = .ok (.list xs) (restore os ρ ρe) := rfl
@[simp] theorem compLK_ite {o o' : Out (List D)} : compLK os ρ (if p then o else o') = if p then compLK os ρ o else compLK os ρ o' := by split <;> rfl
@[simp] theorem wipeM_nil : wipeM ρ [] = ρ := rfl
@[simp] theorem wipeM_cons {v : Nat} {vs : List Nat} : wipeM ρ (v :: vs) = (wipeM ρ vs).set v none := rfl
variable {ek ev : MM D} {kvs : List (D × D)}
def compKG (os : List Nat) (gt : D → MSt → Option MSt) (t : MM Bool) (ek ev : MM D) (xs : List D) (kvs : List (D × D)) : Option MSt → Out (List (D × D))
  | none => .stuck
  | some ρ1 => match t ρ1 with
      | .ok true ρ2 => match ek ρ2 with
        | .ok k ρ3 => match ev ρ3 with
          | .ok y ρ4 => if kvs.length < sizeLine ∧ (keyOf k).isSome = true then compK os gt t ek ev xs (putD kvs k y) ρ4 else .stuck
          | _ => .stuck
        | _ => .stuck
      | .ok false ρ2 => compK os gt t ek ev xs kvs ρ2
      | _ => .stuck
def compKT (os : List Nat) (gt : D → MSt → Option MSt) (t : MM Bool) (ek ev : MM D) (xs : List D) (kvs : List (D × D)) : Out Bool → Out (List (D × D))
  | .ok true ρ2 => match ek ρ2 with
        | .ok k ρ3 => match ev ρ3 with
          | .ok y ρ4 => if kvs.length < sizeLine ∧ (keyOf k).isSome = true then compK os gt t ek ev xs (putD kvs k y) ρ4 else .stuck
          | _ => .stuck
        | _ => .stuck
  | .ok false ρ2 => compK os gt t ek ev xs kvs ρ2
  | _ => .stuck
def compKE (os : List Nat) (gt : D → MSt → Option MSt) (t : MM Bool) (ek ev : MM D) (xs : List D) (kvs : List (D × D)) : Out D → Out (List (D × D))
  | .ok k ρ3 => match ev ρ3 with
          | .ok y ρ4 => if kvs.length < sizeLine ∧ (keyOf k).isSome = true then compK os gt t ek ev xs (putD kvs k y) ρ4 else .stuck
          | _ => .stuck
  | _ => .stuck
def compKV (os : List Nat) (gt : D → MSt → Option MSt) (t : MM Bool) (ek ev : MM D) (xs : List D) (kvs : List (D × D)) (k : D) : Out D → Out (List (D × D))
  | .ok y ρ4 => if kvs.length < sizeLine ∧ (keyOf k).isSome = true then compK os gt t ek ev xs (putD kvs k y) ρ4 else .stuck
  | _ => .stuck
@[simp] theorem compK_nil : compK os gt t ek ev [] kvs ρ = .ok kvs ρ := rfl
@[simp] theorem compK_cons : compK os gt t ek ev (x :: xs) kvs ρ = compKG os gt t ek ev xs kvs (gt x (wipeM ρ os)) := by
  show (match gt x (wipeM ρ os) with | none => Out.stuck | some ρ1 => _) = _
  cases gt x (wipeM ρ os) <;> rfl
@[simp] theorem compKG_some : compKG os gt t ek ev xs kvs (some ρ) = compKT os gt t ek ev xs kvs (t ρ) := rfl
@[simp] theorem compKG_ite {o o' : Option MSt} : compKG os gt t ek ev xs kvs (if p then o else o') = if p then compKG os gt t ek ev xs kvs o else compKG os gt t ek ev xs kvs o' := by split <;> rfl
@[simp] theorem compKT_ok : compKT os gt t ek ev xs kvs (.ok b ρ) = if b = true then compKE os gt t ek ev xs kvs (ek ρ) else compK os gt t ek ev xs kvs ρ := by cases b <;> rfl
@[simp] theorem compKE_ok : compKE os gt t ek ev xs kvs (.ok x ρ) = compKV os gt t ek ev xs kvs x (ev ρ) := rfl
@[simp] theorem compKV_ok : compKV os gt t ek ev xs kvs x (.ok y ρ) = if kvs.length < sizeLine ∧ (keyOf x).isSome = true then compK os gt t ek ev xs (putD kvs x y) ρ else .stuck := rfl
def compOK (os : List Nat) (ρ : MSt) : Out (List (D × D)) → Out S
  | .ok ys ρe => .ok (.od ys) (restore os ρ ρe)
  | _ => .stuck
@[simp] theorem compO_ap : compO os gt t ek ev xs ρ = compOK os ρ (compK os gt t ek ev xs [] ρ) := rfl
@[simp] theorem compOK_ok {ρe : MSt} : compOK os ρ (.ok kvs ρe) = .ok (.od kvs) (restore os ρ ρe) := rfl
def restA (os : List Nat) : Nat → MSt → MSt → MSt
  | _, [], _ => []
  | i, o :: ρ, ρ' => (if i ∈ os then keepd (some o) else (ρ'.head?).getD none) :: restA os (i + 1) ρ ρ'.tail
theorem restA_eq : ∀ (ρ ρ' : MSt) (k : Nat), restA os k ρ ρ' = (List.range ρ.length).map fun (i : Nat) => if i + k ∈ os then keepd ρ[i]? else (ρ'[i]?).getD none
  | [], _, _ => rfl
  | o :: ρ, ρ', k => by
    rw [List.length_cons, List.range_succ_eq_map, List.map_cons, List.map_map]
    show _ :: _ = _
    congr 1
    · simp only [Nat.zero_add, List.getElem?_cons_zero, List.head?_eq_getElem?]
    · rw [restA_eq ρ ρ'.tail (k + 1)]
      apply List.map_congr_left
      intro i _
      simp only [Function.comp, List.getElem?_cons_succ, List.getElem?_tail]
      have e : i + (k + 1) = Nat.succ i + k := by omega
      rw [e]
@[simp] theorem restore_ap {ρ' : MSt} : restore os ρ ρ' = restA os 0 ρ ρ' := by
  rw [restA_eq]
  unfold restore
  rfl
@[simp] theorem restA_nil {k : Nat} {ρ' : MSt} : restA os k [] ρ' = [] := rfl
@[simp] theorem restA_cons {k : Nat} {o o' : Option S} {ρ' : MSt} : restA os k (o :: ρ) (o' :: ρ') = (if k ∈ os then keepd (some o) else o') :: restA os (k + 1) ρ ρ' := rfl
@[simp] theorem keepd_d : keepd (some (some (.d x))) = some (.d x) := rfl
@[simp] theorem keepd_none : keepd (some none) = none := rfl
end
end Mi
set_option Elab.async false
set_option linter.all false
set_option maxRecDepth 100000
set_option maxHeartbeats 4000000
namespace Mi
open PySem L2
section
variable {ρ : MSt} {f f1 f2 f3 : MM D} {i j : Int} {k n m : Nat} {x y z d : D} {b b' : Bool} {p : Prop} [Decidable p] {e : Exn} {xs ys : List D} {kvs : List (D × D)} {u v : Str} {ga : MM (List D)}
@[simp] theorem ite_pB : (if p then (Out.ok b' ρ : Out Bool) else .ok false ρ) = .ok (decide p && b') ρ := by split <;> simp_all
@[simp] theorem ite_pB2 : (if p then (Out.ok true ρ : Out Bool) else .ok b' ρ) = .ok (decide p || b') ρ := by split <;> simp_all
@[simp] theorem ite_pD : (if p then (Out.ok (.bool b') ρ : Out D) else .ok (.bool false) ρ) = .ok (.bool (decide p && b')) ρ := by split <;> simp_all
@[simp] theorem ite_pD2 : (if p then (Out.ok (.bool true) ρ : Out D) else .ok (.bool b') ρ) = .ok (.bool (decide p || b')) ρ := by split <;> simp_all
@[simp] theorem ite_pR : (if p then (Res.ok (.bool b') : Res D) else .ok (.bool false)) = .ok (.bool (decide p && b')) := by split <;> simp_all
@[simp] theorem ite_pR2 : (if p then (Res.ok (.bool true) : Res D) else .ok (.bool b')) = .ok (.bool (decide p || b')) := by split <;> simp_all
@[simp] theorem dAdd_int : dAdd (.int i) (.int j) = .ok (.int (i + j)) := rfl
@[simp] theorem dAdd_str : dAdd (.str u) (.str v) = if u.length + v.length ≤ sizeLine then .ok (.str (u ++ v)) else .stuck := rfl
@[simp] theorem dAdd_list : dAdd (.list xs) (.list ys) = if xs.length + ys.length ≤ sizeLine then .ok (.list (xs ++ ys)) else .stuck := rfl
@[simp] theorem dAdd_tuple : dAdd (.tuple xs) (.tuple ys) = if xs.length + ys.length ≤ sizeLine then .ok (.tuple (xs ++ ys)) else .stuck := rfl
@[simp] theorem dSub_int : dSub (.int i) (.int j) = .ok (.int (i - j)) := rfl
@[simp] theorem dMul_int : dMul (.int i) (.int j) = if mulOk i j = true then .ok (.int (i * j)) else .stuck := rfl
@[simp] theorem dFdiv_int : dFdiv (.int i) (.int j) = if 0 < j ∧ j.natAbs.log2 < 9000 then .ok (.int (i / j)) else .stuck := rfl
@[simp] theorem dMod_int : dMod (.int i) (.int j) = if 0 < j then .ok (.int (i % j)) else .stuck := rfl
@[simp] theorem dPow_int : dPow (.int i) (.int j) = if 0 ≤ j ∧ j ≤ 1000000 ∧ i.natAbs < 2 ^ 64 then .ok (.int (i ^ j.toNat)) else .stuck := rfl
@[simp] theorem dLe_int : dLe (.int i) (.int j) = .ok (.bool (decide (i ≤ j))) := rfl
@[simp] theorem dGt_int : dGt (.int i) (.int j) = .ok (.bool (decide (j < i))) := rfl
@[simp] theorem dGe_int : dGe (.int i) (.int j) = .ok (.bool (decide (j ≤ i))) := rfl
@[simp] theorem dLt_int : dLt (.int i) (.int j) = .ok (.bool (decide (i < j))) := rfl
def strLt (u v : Str) : Bool := decide (u.cps.toList < v.cps.toList)
@[simp] theorem dLt_str : dLt (.str u) (.str v) = .ok (.bool (strLt u v)) := rfl
@[simp] theorem dEq_ap : dEq x y = if eqOk x = true ∧ eqOk y = true then .ok (.bool (D.eqv x y)) else .stuck := rfl
@[simp] theorem dNe_ap : dNe x y = if eqOk x = true ∧ eqOk y = true then .ok (.bool (!D.eqv x y)) else .stuck := rfl
@[simp] theorem dIs_none : dIs x .none = .ok (.bool (isNone x)) := by cases x <;> rfl
@[simp] theorem dIs_bool : dIs (.bool b) (.bool b') = .ok (.bool (decide (b = b'))) := rfl
@[simp] theorem dIsNot_none : dIsNot x .none = .ok (.bool (!isNone x)) := by cases x <;> rfl
@[simp] theorem dIsNot_bool : dIsNot (.bool b) (.bool b') = .ok (.bool (!decide (b = b'))) := rfl
@[simp] theorem isNone_none : isNone .none = true := rfl
@[simp] theorem isNone_bool : isNone (.bool b) = false := rfl
@[simp] theorem isNone_int : isNone (.int i) = false := rfl
@[simp] theorem isNone_str : isNone (.str u) = false := rfl
@[simp] theorem isNone_list : isNone (.list xs) = false := rfl
@[simp] theorem isNone_tuple : isNone (.tuple xs) = false := rfl
@[simp] theorem isNone_dict : isNone (.dict kvs) = false := rfl
theorem eqOk_eq : eqOk d = (noDict d && (d.canLay0 && decide (d.depth ≤ 64))) := rfl
@[simp] theorem dIx_list : dIx (.list xs) (.int i) = (match atI xs i with | some d => .ok d | none => .stuck) := rfl
@[simp] theorem dIx_tuple : dIx (.tuple xs) (.int i) = (match atI xs i with | some d => .ok d | none => .stuck) := rfl
@[simp] theorem dIx_dict : dIx (.dict kvs) x = (match keyOf x with | some _ => (match valAt kvs x with | some d => .ok d | none => .stuck) | none => .stuck) := by cases x <;> rfl
@[simp] theorem atI_0 : atI (x :: xs) 0 = some x := atI_nat (j := 0) rfl
@[simp] theorem atI_1 : atI (x :: y :: xs) 1 = some y := atI_nat (j := 1) rfl
@[simp] theorem atI_2 : atI (x :: y :: z :: xs) 2 = some z := atI_nat (j := 2) rfl
@[simp] theorem keyOf_int : keyOf (.int i) = some (.inl i) := rfl
@[simp] theorem keyOf_str : keyOf (.str u) = some (.inr u) := rfl
@[simp] theorem eqv_str : D.eqv (.str u) (.str v) = decide (u = v) := by
  show PyData.eqv (.str u) (.str v) = _
  rw [PyData.eqv, Bool.beq_eq_decide_eq]
@[simp] theorem eqv_int : D.eqv (.int i) (.int j) = decide (i = j) := by
  show PyData.eqv (.int i) (.int j) = _
  rw [PyData.eqv, Bool.beq_eq_decide_eq]
@[simp] theorem eqv_bool : D.eqv (.bool b) (.bool b') = decide (b = b') := by
  show PyData.eqv (.bool b) (.bool b') = _
  rw [PyData.eqv, Bool.beq_eq_decide_eq]
@[simp] theorem eqv_tuple : D.eqv (.tuple xs) (.tuple ys) = D.eqvAll xs ys := by
  show PyData.eqv (.tuple (pys xs)) (.tuple (pys ys)) = _
  rw [PyData.eqv]; rfl
@[simp] theorem eqv_list : D.eqv (.list xs) (.list ys) = D.eqvAll xs ys := by
  show PyData.eqv (.list (pys xs)) (.list (pys ys)) = _
  rw [PyData.eqv]; rfl
@[simp] theorem eqv_none : D.eqv .none .none = true := by
  show PyData.eqv .none .none = _
  rw [PyData.eqv]
@[simp] theorem eqv_none_bool : D.eqv .none (.bool b) = false := by
  show PyData.eqv .none (.bool b) = _
  rw [PyData.eqv] <;> simp
@[simp] theorem eqv_none_int : D.eqv .none (.int i) = false := by
  show PyData.eqv .none (.int i) = _
  rw [PyData.eqv] <;> simp
@[simp] theorem eqv_none_str : D.eqv .none (.str u) = false := by
  show PyData.eqv .none (.str u) = _
  rw [PyData.eqv] <;> simp
@[simp] theorem eqv_none_list : D.eqv .none (.list xs) = false := by
  show PyData.eqv .none (.list (pys xs)) = _
  rw [PyData.eqv] <;> simp
@[simp] theorem eqv_none_tuple : D.eqv .none (.tuple ys) = false := by
  show PyData.eqv .none (.tuple (pys ys)) = _
  rw [PyData.eqv] <;> simp
@[simp] theorem eqv_none_dict : D.eqv .none (.dict kvs) = false := by
  show PyData.eqv .none (.dict (pykv kvs)) = _
  rw [PyData.eqv] <;> simp
@[simp] theorem eqv_bool_none : D.eqv (.bool b) .none = false := by
  show PyData.eqv (.bool b) .none = _
  rw [PyData.eqv] <;> simp
@[simp] theorem eqv_bool_str : D.eqv (.bool b) (.str u) = false := by
  show PyData.eqv (.bool b) (.str u) = _
  rw [PyData.eqv] <;> simp
@[simp] theorem eqv_bool_list : D.eqv (.bool b) (.list xs) = false := by
  show PyData.eqv (.bool b) (.list (pys xs)) = _
  rw [PyData.eqv] <;> simp
@[simp] theorem eqv_bool_tuple : D.eqv (.bool b) (.tuple ys) = false := by
  show PyData.eqv (.bool b) (.tuple (pys ys)) = _
  rw [PyData.eqv] <;> simp
@[simp] theorem eqv_bool_dict : D.eqv (.bool b) (.dict kvs) = false := by
  show PyData.eqv (.bool b) (.dict (pykv kvs)) = _
  rw [PyData.eqv] <;> simp
@[simp] theorem eqv_int_none : D.eqv (.int i) .none = false := by
  show PyData.eqv (.int i) .none = _
  rw [PyData.eqv] <;> simp
@[simp] theorem eqv_int_str : D.eqv (.int i) (.str u) = false := by
  show PyData.eqv (.int i) (.str u) = _
  rw [PyData.eqv] <;> simp
@[simp] theorem eqv_int_list : D.eqv (.int i) (.list xs) = false := by
  show PyData.eqv (.int i) (.list (pys xs)) = _
  rw [PyData.eqv] <;> simp
@[simp] theorem eqv_int_tuple : D.eqv (.int i) (.tuple ys) = false := by
  show PyData.eqv (.int i) (.tuple (pys ys)) = _
  rw [PyData.eqv] <;> simp
@[simp] theorem eqv_int_dict : D.eqv (.int i) (.dict kvs) = false := by
  show PyData.eqv (.int i) (.dict (pykv kvs)) = _
  rw [PyData.eqv] <;> simp
@[simp] theorem eqv_str_none : D.eqv (.str u) .none = false := by
  show PyData.eqv (.str u) .none = _
  rw [PyData.eqv] <;> simp
@[simp] theorem eqv_str_bool : D.eqv (.str u) (.bool b) = false := by
  show PyData.eqv (.str u) (.bool b) = _
  rw [PyData.eqv] <;> simp
@[simp] theorem eqv_str_int : D.eqv (.str u) (.int i) = false := by
  show PyData.eqv (.str u) (.int i) = _
  rw [PyData.eqv] <;> simp
@[simp] theorem eqv_str_list : D.eqv (.str u) (.list xs) = false := by
  show PyData.eqv (.str u) (.list (pys xs)) = _
  rw [PyData.eqv] <;> simp
@[simp] theorem eqv_str_tuple : D.eqv (.str u) (.tuple ys) = false := by
  show PyData.eqv (.str u) (.tuple (pys ys)) = _
  rw [PyData.eqv] <;> simp
@[simp] theorem eqv_str_dict : D.eqv (.str u) (.dict kvs) = false := by
  show PyData.eqv (.str u) (.dict (pykv kvs)) = _
  rw [PyData.eqv] <;> simp
@[simp] theorem eqv_list_none : D.eqv (.list xs) .none = false := by
  show PyData.eqv (.list (pys xs)) .none = _
  rw [PyData.eqv] <;> simp
@[simp] theorem eqv_list_bool : D.eqv (.list xs) (.bool b) = false := by
  show PyData.eqv (.list (pys xs)) (.bool b) = _
  rw [PyData.eqv] <;> simp
@[simp] theorem eqv_list_int : D.eqv (.list xs) (.int i) = false := by
  show PyData.eqv (.list (pys xs)) (.int i) = _
  rw [PyData.eqv] <;> simp
@[simp] theorem eqv_list_str : D.eqv (.list xs) (.str u) = false := by
  show PyData.eqv (.list (pys xs)) (.str u) = _
  rw [PyData.eqv] <;> simp
@[simp] theorem eqv_list_tuple : D.eqv (.list xs) (.tuple ys) = false := by
  show PyData.eqv (.list (pys xs)) (.tuple (pys ys)) = _
  rw [PyData.eqv] <;> simp
@[simp] theorem eqv_list_dict : D.eqv (.list xs) (.dict kvs) = false := by
  show PyData.eqv (.list (pys xs)) (.dict (pykv kvs)) = _
  rw [PyData.eqv] <;> simp
@[simp] theorem eqv_tuple_none : D.eqv (.tuple ys) .none = false := by
  show PyData.eqv (.tuple (pys ys)) .none = _
  rw [PyData.eqv] <;> simp
@[simp] theorem eqv_tuple_bool : D.eqv (.tuple ys) (.bool b) = false := by
  show PyData.eqv (.tuple (pys ys)) (.bool b) = _
  rw [PyData.eqv] <;> simp
@[simp] theorem eqv_tuple_int : D.eqv (.tuple ys) (.int i) = false := by
  show PyData.eqv (.tuple (pys ys)) (.int i) = _
  rw [PyData.eqv] <;> simp
@[simp] theorem eqv_tuple_str : D.eqv (.tuple ys) (.str u) = false := by
  show PyData.eqv (.tuple (pys ys)) (.str u) = _
  rw [PyData.eqv] <;> simp
@[simp] theorem eqv_tuple_list : D.eqv (.tuple ys) (.list xs) = false := by
  show PyData.eqv (.tuple (pys ys)) (.list (pys xs)) = _
  rw [PyData.eqv] <;> simp
@[simp] theorem eqv_tuple_dict : D.eqv (.tuple ys) (.dict kvs) = false := by
  show PyData.eqv (.tuple (pys ys)) (.dict (pykv kvs)) = _
  rw [PyData.eqv] <;> simp
@[simp] theorem eqv_dict_none : D.eqv (.dict kvs) .none = false := by
  show PyData.eqv (.dict (pykv kvs)) .none = _
  rw [PyData.eqv] <;> simp
@[simp] theorem eqv_dict_bool : D.eqv (.dict kvs) (.bool b) = false := by
  show PyData.eqv (.dict (pykv kvs)) (.bool b) = _
  rw [PyData.eqv] <;> simp
@[simp] theorem eqv_dict_int : D.eqv (.dict kvs) (.int i) = false := by
  show PyData.eqv (.dict (pykv kvs)) (.int i) = _
  rw [PyData.eqv] <;> simp
@[simp] theorem eqv_dict_str : D.eqv (.dict kvs) (.str u) = false := by
  show PyData.eqv (.dict (pykv kvs)) (.str u) = _
  rw [PyData.eqv] <;> simp
@[simp] theorem eqv_dict_list : D.eqv (.dict kvs) (.list xs) = false := by
  show PyData.eqv (.dict (pykv kvs)) (.list (pys xs)) = _
  rw [PyData.eqv] <;> simp
@[simp] theorem eqv_dict_tuple : D.eqv (.dict kvs) (.tuple ys) = false := by
  show PyData.eqv (.dict (pykv kvs)) (.tuple (pys ys)) = _
  rw [PyData.eqv] <;> simp
@[simp] theorem eqvAll_nil : D.eqvAll [] [] = true := by
  show PyData.eqvAll [] [] = _
  rw [PyData.eqvAll]
@[simp] theorem eqvAll_cons : D.eqvAll (x :: xs) (y :: ys) = (D.eqv x y && D.eqvAll xs ys) := by
  show PyData.eqvAll (x.py :: pys xs) (y.py :: pys ys) = _
  rw [PyData.eqvAll]; rfl
@[simp] theorem eqvAll_nc : D.eqvAll [] (y :: ys) = false := by
  show PyData.eqvAll [] (y.py :: pys ys) = _
  rw [PyData.eqvAll]
@[simp] theorem eqvAll_cn : D.eqvAll (x :: xs) [] = false := by
  show PyData.eqvAll (x.py :: pys xs) [] = _
  rw [PyData.eqvAll]
@[simp] theorem dLen_list : dLen [.list xs] = .ok (.int xs.length) := rfl
@[simp] theorem dLen_tuple : dLen [.tuple xs] = .ok (.int xs.length) := rfl
@[simp] theorem dLen_dict : dLen [.dict kvs] = .ok (.int kvs.length) := rfl
@[simp] theorem dLen_str : dLen [.str u] = if u.length ≤ sizeLine then .ok (.int u.length) else .stuck := rfl
@[simp] theorem toBools_nil : toBools [] = some [] := rfl
@[simp] theorem toBools_cons : toBools (.bool b :: xs) = (toBools xs).map (b :: ·) := rfl
@[simp] theorem toInts_nil : toInts [] = some [] := rfl
@[simp] theorem toInts_cons : toInts (.int i :: xs) = (toInts xs).map (i :: ·) := rfl
@[simp] theorem dAll_list : dAll [.list xs] = (match toBools xs with | some bs => .ok (.bool (bs.all id)) | none => .stuck) := rfl
@[simp] theorem dAny_list : dAny [.list xs] = (match toBools xs with | some bs => .ok (.bool (bs.any id)) | none => .stuck) := rfl
@[simp] theorem dSum_list : dSum [.list xs] = (match toInts xs with | some ns => .ok (.int ns.sum) | none => .stuck) := rfl
@[simp] theorem dMax_2 : dMax [.int i, .int j] = .ok (.int (max i j)) := by
  show Res.ok (D.int (if j > i then j else i)) = _
  congr 2
  rw [Int.max_def]
  split <;> split <;> omega
@[simp] theorem dMin_2 : dMin [.int i, .int j] = .ok (.int (min i j)) := by
  show Res.ok (D.int (if j < i then j else i)) = _
  congr 2
  rw [Int.min_def]
  split <;> split <;> omega
@[simp] theorem dTuple_list : dTuple [.list xs] = .ok (.tuple xs) := rfl
@[simp] theorem dTuple_tuple : dTuple [.tuple xs] = .ok (.tuple xs) := rfl
@[simp] theorem dList_list : dList [.list xs] = .ok (.list xs) := rfl
@[simp] theorem dList_tuple : dList [.tuple xs] = .ok (.list xs) := rfl
@[simp] theorem toPairs_nil : toPairs [] = some [] := rfl
@[simp] theorem toPairs_cons : toPairs (.tuple [.str u, x] :: xs) = (toPairs xs).map ((.str u, x) :: ·) := rfl
@[simp] theorem dDict_list : dDict [.list xs] = (match toPairs xs with | some ms => .ok (.dict (mergeD [] ms)) | none => .stuck) := rfl
@[simp] theorem dDict_tuple : dDict [.tuple xs] = (match toPairs xs with | some ms => .ok (.dict (mergeD [] ms)) | none => .stuck) := rfl
@[simp] theorem dDict_dict : dDict [.dict kvs] = .ok (.dict kvs) := rfl
@[simp] theorem mergeD_nil : mergeD kvs [] = kvs := rfl
@[simp] theorem mergeD_cons {q : D × D} {qs : List (D × D)} : mergeD kvs (q :: qs) = mergeD (putD kvs q.1 q.2) qs := rfl
@[simp] theorem putD_ap : putD kvs x y = if hasKey x kvs = true then kvs.map fun kv => if D.eqv kv.1 x = true then (kv.1, y) else kv else kvs ++ [(x, y)] := rfl
@[simp] theorem hasKey_nil : hasKey x [] = false := rfl
@[simp] theorem hasKey_cons {q : D × D} : hasKey x (q :: kvs) = (D.eqv q.1 x || hasKey x kvs) := rfl
@[simp] theorem valAt_nil : valAt [] x = none := rfl
@[simp] theorem valAt_cons {q : D × D} : valAt (q :: kvs) x = if D.eqv q.1 x = true then some q.2 else valAt kvs x := by
  unfold valAt
  rw [List.find?_cons]
  cases D.eqv q.1 x <;> rfl
@[simp] theorem allStr_nil : allStr [] = some [] := rfl
@[simp] theorem allStr_cons : allStr ((.str u, x) :: kvs) = (allStr kvs).map (u :: ·) := rfl
@[simp] theorem dSorted_dict : dSorted [.dict kvs] = (match allStr kvs with | some ks => if ks.length < 64 then .ok (.list (sortL (ks.map .str))) else .stuck | none => .stuck) := rfl
@[simp] theorem dSorted_list : dSorted [.list xs] = if sortOk xs = true then .ok (.list (sortL xs)) else .stuck := rfl
@[simp] theorem small_ap : small n = decide (n ≤ 16777216) := rfl
@[simp] theorem mkT_ap : mkT xs = if small xs.length = true then .ok (.tuple xs) else .stuck := rfl
@[simp] theorem mkL_ap : mkL xs = if small xs.length = true then .ok (.list xs) else .stuck := rfl
@[simp] theorem zipD_cons : zipD (x :: xs) (y :: ys) = .tuple [x, y] :: zipD xs ys := rfl
@[simp] theorem zipD_nil : zipD [] ys = [] := by cases ys <;> rfl
@[simp] theorem zipD_nil2 : zipD xs [] = [] := by cases xs <;> rfl
@[simp] theorem zip2_tt : zip2 [.tuple xs, .tuple ys] = .ok (zipD xs ys) := rfl
@[simp] theorem zip2_ll : zip2 [.list xs, .list ys] = .ok (zipD xs ys) := rfl
@[simp] theorem range1_ap : range1 [.int i] = if inB i = true then .ok (upTo 0 i.toNat) else .stuck := rfl
@[simp] theorem range2_ap : range2 [.int i, .int j] = if inB i = true ∧ inB j = true then .ok (upTo i (j - i).toNat) else .stuck := rfl
@[simp] theorem isInt_int : isInt (.int i) = true := rfl
@[simp] theorem isInt_bool : isInt (.bool b) = true := rfl
@[simp] theorem isInt_str : isInt (.str u) = false := rfl
@[simp] theorem isInt_tuple : isInt (.tuple xs) = false := rfl
@[simp] theorem isBool_int : isBool (.int i) = false := rfl
@[simp] theorem isStr_str : isStr (.str u) = true := rfl
@[simp] theorem isTup_tuple : isTup (.tuple xs) = true := rfl
@[simp] theorem isLst_list : isLst (.list xs) = true := rfl
@[simp] theorem isDic_dict : isDic (.dict kvs) = true := rfl
@[simp] theorem dIn_ap : dIn x y = (match inB0 x y with | some b => .ok (.bool b) | none => .stuck) := rfl
@[simp] theorem sliceE_ap {lo hi : MM (Option Int)} : sliceE f lo hi ρ = Out.bind (f ρ) fun x => MM.bind lo fun l => MM.bind hi fun h => lift (sliceD x l h) := rfl
@[simp] theorem partN_ap : partN ρ = .ok none ρ := rfl
@[simp] theorem partS_ap : partS f ρ = Out.bind (f ρ) fun d => match d with | .int i => MM.pure (some i) | _ => stuck := rfl
@[simp] theorem sliceD_list {lo hi : Option Int} : sliceD (.list xs) lo hi = .ok (.list (cutD xs lo hi)) := rfl
@[simp] theorem sliceD_tuple {lo hi : Option Int} : sliceD (.tuple xs) lo hi = .ok (.tuple (cutD xs lo hi)) := rfl
def get2K (f2 f3 : MM D) (o : Out D) : Out D := Out.bind o fun x => match x with
  | .dict kvs => MM.bind f2 fun k => MM.bind f3 fun z => match keyOf k with
    | some _ => MM.pure ((valAt kvs k).getD z)
    | none => stuck
  | _ => stuck
@[simp] theorem get2E_ap : get2E f1 f2 f3 ρ = get2K f2 f3 (f1 ρ) := rfl
@[simp] theorem get2K_ok : get2K f2 f3 (.ok (.dict kvs) ρ) = Out.bind (f2 ρ) fun k => MM.bind f3 fun z => match keyOf k with | some _ => MM.pure ((valAt kvs k).getD z) | none => stuck := rfl
theorem ol_if {α : Type} {o : Option (Option S)} {A B : α} : (match o with | some (some (.ol _)) => A | _ => B) = if (match o with | some (some (.ol _)) => true | _ => false) = true then A else B := by
  rcases o with _ | _ | s
  · rfl
  · rfl
  · cases s <;> rfl
theorem od_if {α : Type} {o : Option (Option S)} {A B : α} : (match o with | some (some (.od _)) => A | _ => B) = if (match o with | some (some (.od _)) => true | _ => false) = true then A else B := by
  rcases o with _ | _ | s
  · rfl
  · rfl
  · cases s <;> rfl
theorem dc_if {α : Type} {o : Option (Option S)} {A B : α} : (match o with | some (some (.dc _)) => A | _ => B) = if (match o with | some (some (.dc _)) => true | _ => false) = true then A else B := by
  rcases o with _ | _ | s
  · rfl
  · rfl
  · cases s <;> rfl
def ownK (g : List (D × D) → MM D) (ρ : MSt) : Option (Option S) → Out D
  | some (some (.od kvs)) => g kvs ρ
  | _ => .stuck
variable {g : List (D × D) → MM D}
@[simp] theorem ownD_ap : ownD k g ρ = ownK g ρ ρ[k]? := rfl
@[simp] theorem ownK_ok : ownK g ρ (some (some (.od kvs))) = g kvs ρ := rfl
def isOd : Option (Option S) → Bool
  | some (some (.od _)) => true
  | _ => false
@[simp] theorem isOd_od : isOd (some (some (.od kvs))) = true := rfl
@[simp] theorem oixE_ap : oixE k f ρ = if isOd ρ[k]? = true then Out.bind (f ρ) (fun x => ownD k fun kvs => match keyOf x, valAt kvs x with | some _, some d => MM.pure d | _, _ => stuck) else .stuck := by
  exact od_if
@[simp] theorem ogetE_ap : ogetE k f f3 ρ = if isOd ρ[k]? = true then Out.bind (f ρ) (fun x => MM.bind f3 fun z => ownD k fun kvs => match keyOf x with | some _ => MM.pure ((valAt kvs x).getD z) | _ => stuck) else .stuck := by
  exact od_if
@[simp] theorem oinE_ap : oinE k b f ρ = Out.bind (f ρ) (fun x => ownD k fun kvs => match keyOf x with | some _ => MM.pure (.bool (if b then hasKey x kvs else !hasKey x kvs)) | _ => stuck) := rfl
def newK (k : Nat) (o : Out S) : Out Fl := Out.bind o fun s => newS k s
@[simp] theorem newO_ap {fo : MM S} : newO fo k ρ = newK k (fo ρ) := rfl
@[simp] theorem newK_ok {s : S} : newK k (.ok s ρ) = newS k s ρ := rfl
@[simp] theorem newS_ap {s : S} : newS k s ρ = if k + 1 < ρ.length then .ok .nx (ρ.set k (some s)) else .stuck := rfl
def frzO (k : Nat) (ρ : MSt) (o : Option (Option S)) : MSt := match o with
  | some (some (.ol xs)) => ρ.set k (some (.d (.list xs)))
  | some (some (.od kvs)) => ρ.set k (some (.d (.dict kvs)))
  | _ => ρ
@[simp] theorem frzS_ap : frzS k ρ = frzO k ρ ρ[k]? := rfl
@[simp] theorem frzO_ol : frzO k ρ (some (some (.ol xs))) = ρ.set k (some (.d (.list xs))) := rfl
@[simp] theorem frzO_od : frzO k ρ (some (some (.od kvs))) = ρ.set k (some (.d (.dict kvs))) := rfl
@[simp] theorem frzO_d : frzO k ρ (some (some (.d x))) = ρ := rfl
@[simp] theorem frzO_dc : frzO k ρ (some (some (.dc xs))) = ρ := rfl
@[simp] theorem frzO_none : frzO k ρ (some none) = ρ := rfl
def isOl : Option (Option S) → Bool
  | some (some (.ol _)) => true
  | _ => false
@[simp] theorem isOl_ol : isOl (some (some (.ol xs))) = true := rfl
def appK (k : Nat) (d : D) (ρ : MSt) (o : Option (Option S)) : Out Fl := match o with
  | some (some (.ol xs)) => if xs.length < sizeLine then .ok .nx (ρ.set k (some (.ol (xs ++ [d])))) else .stuck
  | _ => .stuck
def appJ (k : Nat) (o : Out D) : Out Fl := Out.bind o fun d ρ => appK k d ρ ρ[k]?
@[simp] theorem appS_ap : appS k f ρ = if isOl ρ[k]? = true then appJ k (f ρ) else .stuck := by
  show (match ρ[k]? with | some (some (.ol _)) => appJ k (f ρ) | _ => .stuck) = _
  exact ol_if
@[simp] theorem appJ_ok : appJ k (.ok d ρ) = appK k d ρ ρ[k]? := rfl
@[simp] theorem appJ_ite {o o' : Out D} : appJ k (if p then o else o') = if p then appJ k o else appJ k o' := by split <;> rfl
@[simp] theorem appK_ok : appK k d ρ (some (some (.ol xs))) = if xs.length < sizeLine then .ok .nx (ρ.set k (some (.ol (xs ++ [d])))) else .stuck := rfl
def putK2 (k : Nat) (x v : D) (ρ : MSt) (o : Option (Option S)) (key : Option Key) : Out Fl := match o, key with
  | some (some (.od kvs)), some _ => if kvs.length < sizeLine then .ok .nx (ρ.set k (some (.od (putD kvs x v)))) else .stuck
  | _, _ => .stuck
def putJ (k : Nat) (v : D) (o : Out D) : Out Fl := Out.bind o fun x ρ => putK2 k x v ρ ρ[k]? (keyOf x)
def putI (k : Nat) (fk : MM D) (o : Out D) : Out Fl := Out.bind o fun v ρ => if isOd ρ[k]? = true then putJ k v (fk ρ) else .stuck
@[simp] theorem putS_ap {fv fk : MM D} : putS k fv fk ρ = putI k fk (fv ρ) := by
  unfold putS putI
  show Out.bind (fv ρ) _ = Out.bind (fv ρ) _
  congr 1
  funext v ρ
  show (match ρ[k]? with | some (some (.od _)) => putJ k v (fk ρ) | _ => .stuck) = _
  exact od_if
@[simp] theorem putI_ok {fk : MM D} : putI k fk (.ok d ρ) = if isOd ρ[k]? = true then putJ k d (fk ρ) else .stuck := rfl
@[simp] theorem putJ_ok : putJ k d (.ok x ρ) = putK2 k x d ρ ρ[k]? (keyOf x) := rfl
@[simp] theorem putK2_ok {key : Key} : putK2 k x d ρ (some (some (.od kvs))) (some key) = if kvs.length < sizeLine then .ok .nx (ρ.set k (some (.od (putD kvs x d)))) else .stuck := rfl
variable {gs : MM (List S)} {ss : List S} {s : S} {fo : MM S}
def consDK (gs : MM (List S)) (o : Out D) : Out (List S) := Out.bind o fun x => MM.bind gs fun ss => MM.pure (.d x :: ss)
def consSK (gs : MM (List S)) (o : Out S) : Out (List S) := Out.bind o fun x => MM.bind gs fun ss => MM.pure (x :: ss)
def consSJ (s : S) (o : Out (List S)) : Out (List S) := Out.bind o fun ss => MM.pure (s :: ss)
@[simp] theorem consD_ap : consD f gs ρ = consDK gs (f ρ) := rfl
@[simp] theorem consDK_ok : consDK gs (.ok x ρ) = consSJ (.d x) (gs ρ) := rfl
@[simp] theorem consDK_ite {o o' : Out D} : consDK gs (if p then o else o') = if p then consDK gs o else consDK gs o' := by split <;> rfl
@[simp] theorem consS_ap : consS fo gs ρ = consSK gs (fo ρ) := rfl
@[simp] theorem consSK_ok : consSK gs (.ok s ρ) = consSJ s (gs ρ) := rfl
@[simp] theorem consSJ_ok : consSJ s (.ok ss ρ) = .ok (s :: ss) ρ := rfl
@[simp] theorem consSJ_ite {o o' : Out (List S)} : consSJ s (if p then o else o') = if p then consSJ s o else consSJ s o' := by split <;> rfl
def parK (is : List Nat) (o : Out (List S)) : Out Fl := Out.bind o (putsR is)
variable {is : List Nat}
@[simp] theorem parL_ap : parL is gs ρ = parK is (gs ρ) := rfl
@[simp] theorem parK_ok : parK is (.ok ss ρ) = putsR is ss ρ := rfl
@[simp] theorem parK_ite {o o' : Out (List S)} : parK is (if p then o else o') = if p then parK is o else parK is o' := by split <;> rfl
@[simp] theorem putsR_ap : putsR is ss ρ = if is.length = ss.length ∧ (∀ i ∈ is, i + 1 < ρ.length) then .ok .nx (putsS ρ is ss) else .stuck := rfl
@[simp] theorem putsS_nil : putsS ρ [] ss = ρ := by cases ss <;> rfl
@[simp] theorem putsS_cons : putsS ρ (k :: is) (s :: ss) = putsS (ρ.set k (some s)) is ss := rfl
def isDcS : Option (Option S) → Bool
  | some (some (.dc _)) => true
  | _ => false
@[simp] theorem isDcS_dc : isDcS (some (some (.dc xs))) = true := rfl
variable {fm : List D → List D → Res (D × List D)}
def callOR (k : Nat) (ρ : MSt) (r : Res (D × List D)) : Out D := match r with
  | .ok (d, xs') => .ok d (ρ.set k (some (.dc xs')))
  | _ => .stuck
def callOJ (fm : List D → List D → Res (D × List D)) (k : Nat) (ds : List D) (ρ : MSt) (o : Option (Option S)) : Out D := match o with
  | some (some (.dc xs)) => callOR k ρ (fm xs ds)
  | _ => .stuck
def callOK (fm : List D → List D → Res (D × List D)) (k : Nat) (o : Out (List D)) : Out D := Out.bind o fun ds ρ => callOJ fm k ds ρ ρ[k]?
@[simp] theorem callO_ap : callO fm k ga ρ = if isDcS ρ[k]? = true then callOK fm k (ga ρ) else .stuck := by
  show (match ρ[k]? with | some (some (.dc _)) => callOK fm k (ga ρ) | _ => .stuck) = _
  exact dc_if
@[simp] theorem callOK_ok : callOK fm k (.ok xs ρ) = callOJ fm k xs ρ ρ[k]? := rfl
@[simp] theorem callOK_ite {o o' : Out (List D)} : callOK fm k (if p then o else o') = if p then callOK fm k o else callOK fm k o' := by split <;> rfl
@[simp] theorem callOJ_ok : callOJ fm k ys ρ (some (some (.dc xs))) = callOR k ρ (fm xs ys) := rfl
@[simp] theorem callOR_ok : callOR k ρ (.ok (d, xs)) = .ok d (ρ.set k (some (.dc xs))) := rfl
@[simp] theorem callOR_ite {o o' : Res (D × List D)} : callOR k ρ (if p then o else o') = if p then callOR k ρ o else callOR k ρ o' := by split <;> rfl
def dsetJ (k n : Nat) (d : D) (ρ : MSt) (o : Option (Option S)) : Out Fl := match o with
  | some (some (.dc xs)) => if n < xs.length then .ok .nx (ρ.set k (some (.dc (xs.set n d)))) else .stuck
  | _ => .stuck
def dsetK (k n : Nat) (o : Out D) : Out Fl := Out.bind o fun d ρ => dsetJ k n d ρ ρ[k]?
@[simp] theorem dsetS_ap : dsetS k n f ρ = dsetK k n (f ρ) := by unfold dsetS dsetK dsetJ; rfl
@[simp] theorem dsetK_ok : dsetK k n (.ok d ρ) = dsetJ k n d ρ ρ[k]? := rfl
@[simp] theorem dsetK_ite {o o' : Out D} : dsetK k n (if p then o else o') = if p then dsetK k n o else dsetK k n o' := by split <;> rfl
@[simp] theorem dsetJ_ok : dsetJ k n d ρ (some (some (.dc xs))) = if n < xs.length then .ok .nx (ρ.set k (some (.dc (xs.set n d)))) else .stuck := rfl
def borK (ρ : MSt) (o : Out D) : Out D := match o with
  | .ok d _ => if scal d = true then .ok d ρ else .stuck
  | _ => .stuck
@[simp] theorem borrow_ap : borrow f ρ = borK ρ (f (seen ρ)) := rfl
@[simp] theorem borK_ok {ρ' : MSt} : borK ρ (.ok d ρ') = if scal d = true then .ok d ρ else .stuck := rfl
def borTK (ρ : MSt) (o : Out Bool) : Out Bool := match o with
  | .ok d _ => .ok d ρ
  | _ => .stuck
@[simp] theorem borrowT_ap {t : MM Bool} : borrowT t ρ = borTK ρ (t (seen ρ)) := rfl
@[simp] theorem borTK_ok {ρ' : MSt} : borTK ρ (.ok b ρ') = .ok b ρ := rfl
@[simp] theorem seen_nil : seen [] = [] := rfl
@[simp] theorem seen_cons {o : Option S} : seen (o :: ρ) = o.bind seenS :: seen ρ := rfl
@[simp] theorem seenS_d : seenS (.d x) = some (.d x) := rfl
@[simp] theorem seenS_dc : seenS (.dc xs) = some (.d (.list xs)) := rfl
@[simp] theorem seenS_ol : seenS (.ol xs) = some (.d (.list xs)) := rfl
@[simp] theorem seenS_od : seenS (.od kvs) = none := rfl
@[simp] theorem scal_int : scal (.int i) = true := rfl
@[simp] theorem scal_bool : scal (.bool b) = true := rfl
@[simp] theorem scal_str : scal (.str u) = true := rfl
@[simp] theorem scal_none : scal .none = true := rfl
@[simp] theorem endF_rt : endF (.ok (.rt d) ρ) = .ok d := rfl
@[simp] theorem endF_nx : endF (.ok .nx ρ) = .ok .none := rfl
@[simp] theorem endF_exn : endF (.exn e ρ) = .exn e := rfl
@[simp] theorem endF_stuck : endF .stuck = .stuck := rfl
@[simp] theorem endF_ite {o o' : Out Fl} : endF (if p then o else o') = if p then endF o else endF o' := by split <;> rfl
@[simp] theorem runF_ap {s : MM Fl} : runF n m s xs = if xs.length = m then endF (s (startM n xs)) else .stuck := rfl
@[simp] theorem startM_ap : startM n xs = xs.map (fun d => some (S.d d)) ++ List.replicate (n + 1 - xs.length) none := rfl
@[simp] theorem runO_ap {s : MM Fl} : runO n m s xs ys = if ys.length + 1 = m then endO (s (startO n xs ys)) else .stuck := rfl
@[simp] theorem startO_ap : startO n xs ys = some (.dc xs) :: (ys.map (fun d => some (S.d d)) ++ List.replicate (n - ys.length) none) := rfl
@[simp] theorem endO_rt : endO (.ok (.rt d) (some (.dc xs) :: ρ)) = .ok (d, xs) := rfl
@[simp] theorem endO_nx : endO (.ok .nx (some (.dc xs) :: ρ)) = .ok (.none, xs) := rfl
@[simp] theorem endO_ite {o o' : Out Fl} : endO (if p then o else o') = if p then endO o else endO o' := by split <;> rfl
end
def Wp {α : Type} (o : Out α) (P : α → MSt → Prop) : Prop := ∃ a ρ, o = .ok a ρ ∧ P a ρ
end Mi
set_option Elab.async false
set_option linter.all false
set_option maxRecDepth 100000
set_option maxHeartbeats 4000000
namespace Mi
open PySem L2
section
variable {prog : Program} {w : World} {A : Around} {E : Value → Shared → Prop} {s : Shared}
theorem end_hot {it l x1 : Addr} {i : Nat} {items : Array Value} {Q : Option Value → Shared → Prop} (hot : HotX.HotAt A x1 s.heap) (hne : x1 ≠ it) (hit : s.heap.IsListIter it l i) (hl : s.heap.IsList l items) (hx : items[i]? = none)
    (hQ : ∀ h', (∀ b o, b ≠ it → s.heap.get? b = some o → h'.get? b = some o) → Q none { s with heap := h' }) : wpAny (model prog w) A (pyNext (.ref it)) Q E s := by
  obtain ⟨o, ho, hc, hd⟩ := id hit
  obtain ⟨ol, hol, _, nl, hdl⟩ := hl
  obtain ⟨hh, o1, vs1, h1, d1, c1⟩ := hot
  unfold pyNext
  refine wpAny_bind (wpAny_attempt (wpAny_callSpecial?_slot (name := Str.ofString "__next__") hit.typeIs slot_listiter_next (wpAny_call_entry slot_listiter_next hit.typeIs entry_listiter_next ?_ (args_listiter_next _))))
  show wpAny _ _ (field (.ref it) 0 >>= _) _ _ s
  refine wpAny_bind (wpAny_field ho hd (x := .ref l) rfl ?_)
  show wpAny _ _ (if (Value.ref l == Value.none) = true then _ else _) _ _ s
  rw [if_neg (show ¬ ((Value.ref l == Value.none) = true) from Bool.false_ne_true)]
  show wpAny _ _ (field (.ref it) 1 >>= _) _ _ s
  refine wpAny_bind (wpAny_field ho hd (x := .int i 0) rfl ?_)
  show wpAny _ _ (seqItems? (.ref l) >>= _) _ _ s
  refine wpAny_bind (wpAny_seqItems hol hdl ?_)
  simp only [Int.toNat_natCast, hx]
  refine wpAny_bind (wpAny_rule (wpAny_bind (wpAny_setField ho hd (by simp) ?_)))
  show wpAny _ _ (newExc (.type "StopIteration") [] >>= _) _ _ _
  refine wpAny_bind ?_
  simp only [newExc, newTuple]
  refine wpAny_bind (wpAny_newObj_type ?_ (by size_fits))
  refine wpAny_bind (m := firstArgMember _ _) (wpAny_of_eq (a := Value.none) (by first | rfl | (simp only [firstArgMember]; rfl)) ?_)
  refine wpAny_newObj_type ?_ (by size_fits)
  have h1' := (Heap.get?_update_other (h := s.heap) (a := it) (b := x1) (Obj.mapFields (·.setIfInBounds 0 .none)) hne.symm).trans h1
  refine HotX.raiseNew_hot ⟨hh, o1, vs1, Heap.get?_push_of_some _ (Heap.get?_push_of_some _ h1'), d1, c1⟩ (Nat.ne_of_lt (Heap.lt_size (Heap.get?_push_of_some _ h1'))) (Heap.get?_push_size _ rfl) rfl (by first | (simp; done) | (simp; omega) | (simp only [Array.size_append]; simp; omega)) ?_
  refine wpAny_bind (wpAny_isInstance (T := "StopIteration") (b := true) ⟨_, Heap.get?_update_self _ (Heap.get?_push_size _ rfl) rfl, rfl⟩ isSubtype_stop ?_)
  refine wpAny_pure (hQ _ fun b o hb e => ?_)
  have e' := (Heap.get?_update_other (h := s.heap) (a := it) (b := b) (Obj.mapFields (·.setIfInBounds 0 .none)) hb.symm).trans e
  rw [Heap.get?_update_other _ _ (Nat.ne_of_gt (Heap.lt_size (Heap.get?_push_of_some _ e')))]
  exact Heap.get?_push_of_some _ (Heap.get?_push_of_some _ e')
theorem walks_hot {I ax x1 : Addr} (hh : A.handled = some (.ref x1)) (hne : ax ≠ I) (hx : x1 ≠ I) (items : Array Value) :
    Walks prog w A I [I, ax, x1] [I] items.size (fun i v => items[i]? = some v) (fun i h => h.IsListIter I ax i ∧ h.IsList ax items ∧ HotX.HotAt A x1 h) where
  sub := fun b hb => by simp at hb; simp [hb]
  frame := fun _ _ _ st hk => ⟨st.1.at fun o e => hk I (by simp) o e, st.2.1.at fun o e => hk ax (by simp) o e, by
    obtain ⟨h0, o, vs, h1, h2⟩ := st.2.2
    exact ⟨h0, o, vs, hk x1 (by simp) o h1, h2⟩⟩
  item := fun i s Q E hi st hQ => by
    refine wpAny_pyNext_list_item st.1 st.2.1 (x := items[i]) (by simp [hi]) fun h' hit' hs' => ?_
    refine hQ _ h' s.toks (by simp [hi]) ⟨hit', st.2.1.extBut hs'.extBut hne, ?_⟩ fun b o hb e => hs'.extBut b o (fun h => hb (by simp [h])) e
    obtain ⟨h0, o, vs, h1, h2⟩ := st.2.2
    exact ⟨h0, o, vs, hs'.extBut x1 o hx h1, h2⟩
  done := fun s Q E st hQ => end_hot st.2.2 hx st.1 st.2.1 (by simp) fun h' he' => hQ h' s.toks fun b o hb e => he' b o (fun h => hb (by simp [h])) e
  self := fun _ _ _ _ st hQ => wpAny_pyIter_listiter st.1 hQ
end
end Mi
set_option Elab.async false
set_option linter.all false
set_option maxRecDepth 100000
set_option maxHeartbeats 4000000
namespace Mi
open PySem L2
/-- the handled exception's object is among the pins -/
def HotP (X : Cx) (pins : List (Addr × Obj)) : Prop := ∃ p : Addr × Obj, L2H.Hot1 X.A p ∧ p ∈ X.pn ++ pins
theorem HotP.at {X : Cx} {pins : List (Addr × Obj)} {σ : L2.St} {H : Hp} {s : Shared} (c : HotP X pins) (I : Inv X pins σ H s) : ∃ x1 o, HotX.HotAt X.A x1 s.heap ∧ (x1, o) ∈ X.pn ++ pins := by
  obtain ⟨p, ⟨hh, v1, e1, c1⟩, hp⟩ := c
  exact ⟨p.1, p.2, ⟨hh, p.2, v1, (I.pin p hp).1, e1, c1⟩, hp⟩
section
variable {X : Cx} {pins : List (Addr × Obj)} {σ : L2.St} {H : Hp} {s : Shared} {tg : Expr}
theorem item_hot {a it : Addr} {i : Nat} {E : Value → Shared → Prop} (I : Inv X pins σ H s) (hf : FpOk X pins H it) (st : s.heap.IsListIter it a i) (hg : (Itl X.K a).go i H) :
    wpAny (model X.prog X.w) X.A (pyNext (.ref it)) (fun r s1 => ∃ u, r = some u ∧ wpAny (model X.prog X.w) X.A (letOwnedTupleGo tg (.ref it) u) (fun _ s2 => ∃ x H', Inv X pins σ H' s2 ∧ RelV x u ∧ (Itl X.K a).yld i H x H' ∧ s2.heap.IsListIter it a (i + 1) ∧ H' it = none) E s1) E s := by
  obtain ⟨xs, x, hq, hx⟩ := hg
  obtain ⟨its, rv, p, hz⟩ := I.list hq
  obtain ⟨u, hu, ru⟩ := rv.get hx
  obtain ⟨f0, f1, f2, f3, f4, f5⟩ := id hf
  refine wpAny_pyNext_list_item st p.isList (x := u) (by simpa using hu) fun h' st' sb => ?_
  have I1 : Inv X pins σ H { s with heap := h' } := I.turned (t' := s.toks) (fun b o hb e => (sb.2 b hb).trans e) f0 f1 f3 f4 f5
  obtain ⟨o, e, c, d⟩ := id st'
  exact ⟨u, rfl, go_of (s := { s with heap := h' }) e c d (by decide) ⟨x, H, I1, ru, ⟨rfl, fun ys hy => by rw [I.list_inj hy hq]; exact hx⟩, st', f0⟩⟩
theorem done_hot {a it : Addr} {i : Nat} {E : Value → Shared → Prop} (hot : HotP X pins) (I : Inv X pins σ H s) (hf : FpOk X pins H it) (st : s.heap.IsListIter it a i) (hg : (Itl X.K a).stop i H) :
    wpAny (model X.prog X.w) X.A (pyNext (.ref it)) (fun r s1 => r = none ∧ Inv X pins σ H s1) E s := by
  obtain ⟨xs, hq, hx⟩ := hg
  obtain ⟨its, rv, p, hz⟩ := I.list hq
  obtain ⟨f0, f1, f2, f3, f4, f5⟩ := id hf
  have hl := rv.length
  obtain ⟨x1, o, hat, hm⟩ := hot.at I
  exact end_hot hat (fun z => f5 _ hm z) st p.isList (by simp; omega) fun h' eb => ⟨rfl, I.turned (t' := s.toks) (fun b o hb e => eb b o hb e) f0 f1 f3 f4 f5⟩
end
section
variable {X : Cx}
def iLst (K : Fg) (ti : TE) : TI := fun σ H R => ti σ H fun x H1 => ∃ a, x = .ref a ∧ (∃ xs, SqL K H1 a xs) ∧ R (Itl K a) H1
theorem pe_lcH {elt tg iter : Expr} {ifs : List Expr} {scope : Scope} {own : List (Str × Nat)} {pos : Pos} {ti : TE} {g : TG} {tt : TT} {te : TE} (hot : L2H.HotC X) (hst : X.stack = X.env :: X.outer) (hfr : X.env.frame = some X.env.locals) (hN : X.N.Nodup) (hi : PE X iter ti) (ok : BlkOk X.N X.env.scope scope own)
    (hg : ∀ (s : Shared) (H : Hp) (C : Addr) (cl : List (Str × Addr)) (fp : List Addr), PG (X.blk s H scope (compEnvC scope cl C X.env) fp) tg g) (ht : ∀ (s : Shared) (H : Hp) (C : Addr) (cl : List (Str × Addr)) (fp : List Addr), PTs (X.blk s H scope (compEnvC scope cl C X.env) fp) ifs tt)
    (he : ∀ (s : Shared) (H : Hp) (C : Addr) (cl : List (Str × Addr)) (fp : List Addr), PE (X.blk s H scope (compEnvC scope cl C X.env) fp) elt te) (hs : ∀ x, foldedSetIterable iter X.env x = pure x := by intro _; rfl) :
    PE X (.ListComp elt [⟨tg, iter, ifs, 0⟩] scope pos) (tLc (iLst X.K ti) g tt te (own.map (·.2))) := by
  refine ⟨fun pins s σ H Q I h => ?_⟩
  rw [eval_ListComp]
  have hfree : ∀ y ∈ scope.names, y.2 = .free → ∃ c, X.env.cells.lookup y.1 = some c := fun y hy e => (ok.free y hy e).elim (fun k => I.ok.has _ (.inl k)) fun k => I.ok.has _ (.inr k)
  refine wpAny_comprehension_free rfl hs (closure_ok hfree) ok.kind (fun y hy e => by rw [ok.uniq y hy, e]) (thn (hi.run pins s σ H _ I h) fun xv s1 ⟨x1, H1, I1, r1, a, ex, ⟨xs, hq⟩, q⟩ => ?_)
  subst ex
  cases r1
  obtain ⟨its, rv, pl, hz⟩ := I1.list hq
  refine wpAny_pyIter_list pl.isList ?_
  generalize hit : s1.heap.objs.size = it
  generalize hs2 : ({ s1 with heap := s1.heap.push { cls := .type "list_iterator", data := .fields #[.ref a, .int 0 0] } } : Shared) = s2
  have k12 : ∀ b o, s1.heap.get? b = some o → s2.heap.get? b = some o := fun b o e => by rw [← hs2]; exact Heap.get?_push_of_some _ e
  have I2 : Inv X pins σ H1 s2 := by rw [← hs2]; exact I1.kept (t' := s1.toks) fun b o e => Heap.get?_push_of_some _ e
  have st2 : s2.heap.IsListIter it a 0 := by rw [← hs2, ← hit]; exact ⟨_, Heap.get?_push_size _ rfl, rfl, rfl⟩
  have f2 : FpOk X pins H1 it := by rw [← hit]; exact I1.fpOk (Nat.le_refl _) (I1.hok.fresh (Nat.le_refl _))
  have itlt : it < s2.heap.objs.size := by obtain ⟨o, e, _⟩ := st2; exact Heap.lt_size e
  refine wpAny_newObj_type (newEnv_comp ?_) (by show 0 ≤ sizeLine; decide)
  generalize hD : s2.heap.objs.size = D
  have hDn : H1 D = none := I2.hok.fresh (Nat.le_of_eq hD)
  obtain ⟨W, ⟨m0, w0⟩, turn⟩ := q D hDn
  generalize hs3 : ({ s2 with heap := s2.heap.push { cls := .type "list", data := .seq ([] : List Value).toArray } } : Shared) = s3
  have k23 : ∀ b o, s2.heap.get? b = some o → s3.heap.get? b = some o := fun b o e => by rw [← hs3]; exact Heap.get?_push_of_some _ e
  have I3 : Inv X pins σ (upd H1 D (.lst [])) s3 := by
    rw [← hs3]
    refine I2.laid (t' := s2.toks) (fun b o e => Heap.get?_push_of_some _ e) (Nat.le_of_eq hD) ⟨Nat.zero_le _, [], 0, .nil, ?_⟩
    rw [← hD]
    exact Heap.get?_push_size _ rfl
  have sz3 : s3.heap.objs.size = s2.heap.objs.size + 1 := by rw [← hs3]; exact Heap.size_push ..
  have f3 : ∀ b ∈ [it], FpOk X pins (upd H1 D (.lst [])) b ∧ b < s3.heap.objs.size := fun b hb => by
    obtain rfl : b = it := by simpa using hb
    refine ⟨⟨?_, f2.2⟩, by rw [sz3]; exact Nat.lt_succ_of_lt itlt⟩
    rw [upd_ne (by rw [← hD]; exact Nat.ne_of_lt itlt)]
    exact f2.1
  have st3 : s3.heap.IsListIter it a 0 := st2.at fun o e => k23 it o e
  have I4 := block_start I3 ok hN f3
  have pg := hg s3 (upd H1 D (.lst [])) s3.heap.objs.size (cellsFrom (s3.heap.objs.size + 1) scope.names (cloFrom X.env.cells scope.names [])) [it]
  have pt := ht s3 (upd H1 D (.lst [])) s3.heap.objs.size (cellsFrom (s3.heap.objs.size + 1) scope.names (cloFrom X.env.cells scope.names [])) [it]
  have pe := he s3 (upd H1 D (.lst [])) s3.heap.objs.size (cellsFrom (s3.heap.objs.size + 1) scope.names (cloFrom X.env.cells scope.names [])) [it]
  show codeAny _ _ (.compStart (.ListComp elt [⟨tg, iter, ifs, 0⟩] scope pos) 0 (.ref it) (.ref D) (compEnvC scope (cellsFrom (s3.heap.objs.size + 1) scope.names (cloFrom X.env.cells scope.names [])) s3.heap.objs.size X.env)) (compPost (model X.prog X.w) X.A X.xe none _ (.ref D) s3.heap.objs.size) { s3 with heap := pushCells (s3.heap.push { cls := .type "dict", data := .dict #[] }) scope.names }
  have nfp : (upd H1 D (.lst [])) it = none := (f3 it (by simp)).1.1
  generalize hce : compEnvC scope (cellsFrom (s3.heap.objs.size + 1) scope.names (cloFrom X.env.cells scope.names [])) s3.heap.objs.size X.env = ce at I4 pg pt pe ⊢
  have cL : ce.locals = s3.heap.objs.size := by subst hce; rfl
  generalize hH3 : upd H1 D (.lst []) = H3 at I3 I4 pg pt pe w0 nfp f3
  generalize hs4 : ({ s3 with heap := pushCells (s3.heap.push { cls := .type "dict", data := .dict #[] }) scope.names } : Shared) = s4 at I4 ⊢
  have k34 : ∀ b o, s3.heap.get? b = some o → s4.heap.get? b = some o := fun b o e => by rw [← hs4]; exact pushCells_keeps _ _ _ _ (Heap.get?_push_of_some _ e)
  have st4 : s4.heap.IsListIter it a 0 := st3.at fun o e => k34 it o e
  have pinB : ∀ p ∈ X.pn, s4.heap.get? p.1 = some p.2 ∧ H3 p.1 = none ∧ p.1 ≠ ce.locals ∧ p.1 ∉ frs X.stack ∧ ∀ v, p.2.data ≠ .cell v := fun p hp => by
    obtain ⟨h1, h2, h3, h4, h5⟩ := I3.pin p (List.mem_append_left _ hp)
    refine ⟨k34 _ _ h1, h2, by rw [cL]; exact Nat.ne_of_lt (Heap.lt_size h1), fun z => ?_, h5⟩
    rw [hst] at z
    unfold frs at z
    rw [List.filterMap_cons, hfr] at z
    rcases List.mem_cons.mp z with z | z
    · exact h3 z
    · exact h4 z
  have I4' : Inv (X.blk s3 H3 scope ce [it]) X.pn (wipe σ (own.map (·.2))) H3 s4 := I4.pins_of pinB
  have hotB : HotP (X.blk s3 H3 scope ce [it]) X.pn := by
    obtain ⟨p, h1, h2⟩ := hot
    exact ⟨p, h1, List.mem_append_right _ h2⟩
  have itpn : ∀ p ∈ X.pn, p.1 ≠ it := fun p hp => f2.2.2.2.2.2 p (List.mem_append_left _ hp)
  have stat : ∀ {σ' : L2.St} {H' : Hp} {s' : Shared}, Inv (X.blk s3 H3 scope ce [it]) X.pn σ' H' s' → H' it = none → FpOk (X.blk s3 H3 scope ce [it]) X.pn H' it := fun {σ' H' s'} I' hn =>
    ⟨hn, (I'.ok.exf it (by simp)).1, I'.ok.exfs it (by simp), .inl (by simp), fun x c e => (I'.ok.exf it (by simp)).2 x c e, fun p hp => itpn p (by simpa using hp)⟩
  have loop : codeAny (model X.prog X.w) X.A (.compLoop (.ListComp elt [⟨tg, iter, ifs, 0⟩] scope pos) 0 (.ref it) (.ref D) ce) (compPost (model X.prog X.w) X.A X.xe none (EP X pins σ Q) (.ref D) s3.heap.objs.size) s4 := by
    refine compLoop_any (fun n s' => ∃ i H', Inv (X.blk s3 H3 scope ce [it]) X.pn (wipe σ (own.map (·.2))) H' s' ∧ s'.heap.IsListIter it a i ∧ H' it = none ∧ W i n H') ?_ m0 ⟨0, H3, I4', st4, nfp, w0⟩
    rintro n s5 ⟨i, H5, I5, st5, n5, w5⟩
    rcases turn i n H5 w5 with ⟨stop, qq⟩ | ⟨go, Nx, hNx, step⟩
    · refine thnF (done_hot (X := X.blk s3 H3 scope ce [it]) (E := fun _ _ => False) hotB I5 (stat I5 n5) st5 stop) fun r s6 ⟨hr, I6⟩ => ?_
      subst hr
      have I7 : Inv X pins σ H5 s6 := I3.call' (ch := [it]) I6.os I6.base I6.hok I6.bare fun b hb => ⟨(f3 b hb).1.2.2.2.1, (f3 b hb).1.2.1, (f3 b hb).1.2.2.2.2.1, (f3 b hb).1.2.2.2.2.2⟩
      have nC : H5 s3.heap.objs.size = none := by
        have z : H5 ce.locals = none := I6.free
        rw [cL] at z
        exact z
      obtain ⟨m, hn, _⟩ := I6.loc
      have hn : s6.heap.Ns ce.locals m := hn
      rw [cL] at hn
      have hRR : ∀ D C s' m H', Inv X pins σ H' s' → Q (.ref D) H' → s'.heap.Ns C m → FpOk X pins H' C → compPost (model X.prog X.w) X.A X.xe none (EP X pins σ Q) (.ref D) C (.ok .next) s' := fun D C s' m H' I' q hn f => ⟨m, hn, fun h'' sb => by
        obtain ⟨f0, f1, f2, f3, f4, f5⟩ := f
        exact ⟨.ref D, H', I'.turned (t' := s'.toks) (fun b o hb e => (sb.2 b hb).trans e) f0 f1 f3 f4 f5, rfl, q⟩⟩
      exact hRR D s3.heap.objs.size s6 m H5 I7 qq hn (I3.fpOk (Nat.le_refl _) nC)
    · refine thnF (item_hot (X := X.blk s3 H3 scope ce [it]) (tg := tg) (E := fun _ _ => False) I5 (stat I5 n5) st5 go) fun r s6 ⟨u, hr, h6⟩ => ?_
      subst hr
      refine thnF h6 fun _ s7 ⟨x, H7, I7, r7, y7, st7, n7⟩ => ?_
      have I7' : Inv (X.blk s3 H3 scope ce [it]) (X.pn ++ pinsAt [it] s7.heap) (wipe σ (own.map (·.2))) H7 s7 := I7.pinned (fun b hb => by
        obtain rfl : b = it := by simpa using hb
        exact stat I7 n7) fun b hb => by
          obtain rfl : b = it := by simpa using hb
          obtain ⟨o, e, c, d⟩ := st7
          exact ⟨o, e, fun v z => by rw [d] at z; cases z⟩
      refine thnF (pg.run _ s7 _ H7 x u _ I7' r7 (step x H7 y7)) fun _ s8 ⟨σ8, H8, I8, hw8, q8⟩ => ?_
      refine thnF (pt.run _ s8 σ8 H8 _ I8 q8) fun b s9 ⟨H9, I9, q9⟩ => ?_
      have fin : ∀ {s' : Shared} {H' : Hp}, Inv (X.blk s3 H3 scope ce [it]) (X.pn ++ pinsAt [it] s7.heap) σ8 H' s' → Nx H' → ∃ m, m < n ∧ ∃ i H', Inv (X.blk s3 H3 scope ce [it]) X.pn (wipe σ (own.map (·.2))) H' s' ∧ s'.heap.IsListIter it a i ∧ H' it = none ∧ W i m H' := fun {s' H'} I' nx => by
        obtain ⟨m', hm, w'⟩ := hNx H' nx
        have pin' : ∀ o, s7.heap.get? it = some o → s'.heap.get? it = some o ∧ H' it = none := fun o e =>
          let z := I'.pin (it, o) (List.mem_append_right _ (List.mem_append_right _ (mem_pinsAt (by simp) e)))
          ⟨z.1, z.2.1⟩
        have hl : (wipe σ (own.map (·.2))).length = σ8.length := by rw [← hw8, wipe_length]
        refine ⟨m', hm, i + 1, H', (I'.unpinned (pins := X.pn)).weak hl (fun j v e => ?_), st7.at fun o e => (pin' o e).1, ?_, w'⟩
        · rw [← hw8] at e
          exact (wipe_some e).1
        · obtain ⟨o, e, _⟩ := st7
          exact (pin' o e).2
      cases b with
      | false =>
        simp only [Bool.false_eq_true, if_false] at q9 ⊢
        exact fin I9 q9
      | true =>
        simp only [if_true] at q9 ⊢
        refine thnF (pe.run _ s9 σ8 H9 _ I9 q9) fun z s10 ⟨yv, H10, I10, r10, acc, hD10, hz10, nx⟩ => ?_
        exact app_ok (X := X.blk s3 H3 scope ce [it]) I10 hD10 hz10 r10 fun s11 I11 => fin I11 nx
  exact codeAny_compStart_list loop (wpAny_pyIter_listiter st4 loop)
end
end Mi
set_option Elab.async false
set_option linter.all false
set_option maxRecDepth 100000
set_option maxHeartbeats 4000000
namespace Mi
open PySem L2
abbrev Cl := Value × (Addr → Value → Option Addr → TS)
def wAsL (K : Fg) (i : Nat) (Wout : WX) (D : Ends) : List Cl → WX
  | [] => Wout
  | (c, ts) :: r => wAs K c i ts (wAsL K i Wout D r) D
inductive HdsAs (X : Cx) (n : Str) : List ExceptHandler → List Cl → Prop
  | nil : HdsAs X n [] []
  | cons {x : Str} {c : Value} {ts : Addr → Value → Option Addr → TS} {b₀ : Stmt} {suite : List Stmt} {np pos' : Pos} {hds : List ExceptHandler} {l : List Cl} (hc : Names X x c)
      (hsu : ∀ (a : Addr) (oe : Obj) (cls : Value) (d : Option Addr) (pn : List (Addr × Obj)), L2N.Zn cls d oe → (∃ vs, oe.data = .fields vs) → PSs (X.suite a ((a, oe) :: pn)) (b₀ :: suite) (ts a cls d)) (r : HdsAs X n hds l) :
      HdsAs X n (.ExceptHandler (some (.Name x np)) (some n) (b₀ :: suite) pos' :: hds) ((c, ts) :: l)
section
variable {X : Cx} {n : Str} {i : Nat} {body : List Stmt} {h₀ : ExceptHandler} {hds : List ExceptHandler} {l : List Cl} {pos : Pos} {tb : WX → TS} {Wout : WX}
theorem ps_try_asL (hs : X.stack = X.env :: X.outer) (hf : X.env.frame = some X.env.locals) (hN : X.N.Nodup) (hi : X.N[i]? = some n) (hln : X.env.kindOf n = some .local) (tk : L2N.Takes X Wout)
    (hb : ∀ (W : WX) (pn : List (Addr × Obj)) (xe : Value → Shared → Prop), L2N.Takes (X.tr pn xe) W → PassesOwn (model X.prog X.w) X.A X.env xe → PSs (X.tr pn xe) body (tb W))
    (hh : HdsAs X n (h₀ :: hds) l) : PS X (.Try body (h₀ :: hds) [] [] pos) (fun D σ H => tb (wAsL X.K i Wout D l) D σ H) := by
  refine ⟨fun pins s σ H D I h => ?_⟩
  have ok := I.ok
  have hfr : X.A.frames = some (X.env :: X.outer) := by rw [ok.frames, hs]
  have hloc : Loc X.env.scope n := .inl hln
  refine wpAny_Try_except ?_
  refine wpAny_mono ((hb (wAsL X.K i Wout D l) (X.pn ++ pins) (fun e s₁ => wpAny (model X.prog X.w) X.A (noteFrame e X.env) (fun _ s₂ => wpAny (model X.prog X.w) X.A (setFlight e none) (fun _ s₃ => wpAny (model X.prog X.w) X.A (handleBy e X.env (h₀ :: hds)) (SP X pins D) X.xe s₃) X.xe s₂) X.xe s₁) (fun u s' xx => ?_) PassesOwn.looking).run [] s σ H D (I.toTry _) h) (fun f s1 hsp => ?_) (fun e s1 he => he)
  · obtain ⟨a, B, sI, pins', σ', H', cls, d, rfl, J', nb, up, sky, na, os, ag, w⟩ := xx
    have J : Inv X pins σ' H' sI := J'.ofTry ok
    have sky' : Sky B (X.env :: X.outer) a (L2N.Zn cls d) X.env.locals s'.heap := by rw [← hs]; exact sky
    show wpAny (model X.prog X.w) X.A (noteFrame (.ref a) X.env) _ _ _
    refine L2N.Sky.land L2N.Zn.steady hfr hf sky' fun h3 fl3 up3 => ?_
    have J3 : Inv X pins σ' H' { s' with heap := h3 } := J.landed nb fl3.1 (up.trans up3) os ag
    obtain ⟨oe3, vs3, he3, hz3, hd3⟩ := fl3.there
    have nfr : a ∉ frs (X.env :: X.outer) := fun hm => by
      obtain ⟨_, o', e', hnf⟩ := fl3.2.2.1.mem hm
      rw [he3] at e'; cases e'
      exact hnf _ hd3
    have nL : a ≠ X.env.locals := fun z => nfr (List.mem_filterMap.mpr ⟨X.env, List.mem_cons_self, by rw [hf, z]⟩)
    have nF : a ∉ X.fs := fun hm => by
      obtain ⟨e, he, q⟩ := List.mem_filterMap.mp hm
      exact nfr (List.mem_filterMap.mpr ⟨e, List.mem_cons_of_mem _ he, q⟩)
    have S3 := J3.suite he3 hd3 na nL nF
    have go : ∀ {hds' : List ExceptHandler} {l' : List Cl}, HdsAs X n hds' l' → wAsL X.K i Wout D l' cls d σ' H' → wpAny (model X.prog X.w) X.A (handleBy (.ref a) X.env hds') (SP X pins D) X.xe { s' with heap := h3 } := by
      intro hds' l' hk
      induction hk with
      | nil =>
        intro w
        refine wpAny_handleBy_nil ?_
        obtain ⟨k1, k2, k3, oe, vs, T, oT, ts', he, hz, hd, h1, hr⟩ := id fl3
        unfold PySem.passOn
        refine wpAny_bind (wpAny_field he hd h1 ?_)
        rw [if_neg (show ¬ ((Value.ref T == Value.none) = true) from by simp)]
        have fin : wpAny (model X.prog X.w) X.A (setFlight (.ref a) X.env.frame) (fun _ s4 => wpAny (model X.prog X.w) X.A (throw (.ref a) : Sem Flow) (SP X pins D) X.xe s4) X.xe { s' with heap := h3 } := by
          rw [hf]
          refine HandSPX.setFlight_upZ fl3 fun h4 hh4 up4 => wpAny_throw (tk _ _ ?_)
          exact ⟨a, B, sI, pins, σ', H', cls, d, rfl, J, nb, (up.trans up3).trans up4, .inr (.inr (by rw [hs]; exact hh4)), na, os, ag, w⟩
        first
          | exact wpAny_bind (wpAny_pure (wpAny_bind fin))
          | exact wpAny_bind fin
      | @cons x c ts b₀ suite np pos' hds2 l2 hc hsu r ih =>
        intro w
        obtain ⟨b, hb1, hyes, hno⟩ := w
        refine wpAny_handleBy_cons (codeAny_handlers_test ?_) (by intro q; cases q)
        have LT : PySem.W.Looks (model X.prog X.w) h3 (typeOf (.ref a)) cls := fun A Q E s k q => wpAny_typeOf_ref (k _ _ he3) (by rw [hz3.1]; exact q)
        have LM := PySem.W.exm_one (M := model X.prog X.w) (J3.kIn) LT hb1
        have test : ∀ {Q : Value → Shared → Prop} {E : Value → Shared → Prop}, Q c { s' with heap := h3 } → wpAny (model X.prog X.w) (X.A.mark (some (.ref a))) (eval (.Name x np) X.env) Q E { s' with heap := h3 } := fun {Q E} q => by
          obtain ⟨hg, hdbg, hm | ⟨hm, hv, hnn⟩⟩ := hc
          · exact ld_glob (X := X.suite a ((a, oe3) :: (X.pn ++ pins))) S3 hg hm q hdbg
          · exact ld_blt (X := X.suite a ((a, oe3) :: (X.pn ++ pins))) S3 hg hm hv q hnn hdbg
        refine test (LM.here ?_)
        cases b with
        | true =>
          refine codeAny_handlers_suite_as ?_
          refine HandSPX.lands_againZ fl3 fun h4 fl4 up4 => ?_
          have J4 : Inv X pins σ' H' { s' with heap := h4 } := J.landed nb fl4.1 ((up.trans up3).trans up4) os ag
          obtain ⟨oe4, vs4, he4, hz4, hd4⟩ := fl4.there
          have S4 := J4.suite he4 hd4 na nL nF
          refine store_ok (X := X.suite a ((a, oe4) :: (X.pn ++ pins))) (v := .ref a) S4 hN hi hloc rfl (fun s5 S5 => ?_) (.inr hln)
          refine wpAny_mono ((hsu a oe4 cls d (X.pn ++ pins) hz4 ⟨_, hd4⟩).run [] s5 _ H' _ S5 (hyes rfl a na)) (fun f s6 hsp => ?_) (fun _ _ z => False.elim z)
          have end_ : ∀ {σ6 : L2.St} {H6 : Hp} {Q : Shared → Prop}, Inv (X.suite a ((a, oe4) :: (X.pn ++ pins))) [] σ6 H6 s6 → (∀ s7, Inv X pins (σ6.set i none) H6 s7 → Q s7) → wpAny (model X.prog X.w) X.A (do bindName X.env n .none; unbindBehindTheSuite X.env n pos') (fun _ s7 => Q s7) X.xe s6 := fun {σ6 H6 Q} S6 hq => gone_ok (S6.unsuite ok) hN hi hln hq
          cases f with
          | next => obtain ⟨σ6, H6, S6, q6⟩ := hsp; exact end_ S6 fun s7 J7 => ⟨_, _, J7, q6⟩
          | brk => obtain ⟨σ6, H6, S6, q6⟩ := hsp; exact end_ S6 fun s7 J7 => ⟨_, _, J7, q6⟩
          | cont => obtain ⟨σ6, H6, S6, q6⟩ := hsp; exact end_ S6 fun s7 J7 => ⟨_, _, J7, q6⟩
          | ret u => obtain ⟨v6, σ6, H6, S6, r6, q6⟩ := hsp; exact end_ S6 fun s7 J7 => ⟨_, _, _, J7, r6, q6⟩
        | false =>
          show wpAny _ X.A (handleBy (.ref a) X.env hds2) _ _ _
          exact ih (hno rfl)
    exact go hh w
  · cases f with
    | next => obtain ⟨σ', H', J', q⟩ := hsp; exact wpAny_execs_nil ⟨σ', H', J'.ofTry ok, q⟩
    | brk => obtain ⟨σ', H', J', q⟩ := hsp; exact ⟨σ', H', J'.ofTry ok, q⟩
    | cont => obtain ⟨σ', H', J', q⟩ := hsp; exact ⟨σ', H', J'.ofTry ok, q⟩
    | ret u => obtain ⟨v, σ', H', J', r, q⟩ := hsp; exact ⟨v, σ', H', J'.ofTry ok, r, q⟩
end
section
variable {X : Cx} {pins : List (Addr × Obj)} {σ : L2.St} {H HZ : Hp} {s s1 : Shared}
abbrev lamN (X : Cx) (A : Around) (outer : List Env) (s : Shared) (H : Hp) (E : XK) (scope : Scope) (f c' : Addr) : Cx :=
  { LamX.lamCx X A outer s H E scope f c' with xe := fun e s' => wpAny (model X.prog X.w) (A.deeper (LamX.lamEnv X scope s.heap.objs.size f c')) (leaving (LamX.lamEnv X scope s.heap.objs.size f c') e) (fun _ s'' => L2N.CX X.prog X.w outer H s E e s'') (fun e' s'' => L2N.CX X.prog X.w outer H s E e' s'') s' }
theorem pe_actN {CXg : CXT} {Eg : XK} {Ng : List Str} {qg : Str} {sg : Scope} {g f c' : Addr} {cdg pm ctv : Value} {params : Arguments} {body : Expr} {scope : Scope} {k i : Nat} {a : Str} {pn : List (Addr × Obj)} {xe : Value → Shared → Prop} {W : WX} {E : XK} {tb : TE} {p1 p2 : Pos}
    (I : Inv X pins σ H s) (L : LamX.LamS X.env.scope scope) (hf : s.heap.get? f = some (PySem.W.kla_obj "<lambda>" (X.env.qual ++ "<lambda>") params body scope (cloFrom X.env.cells scope.names []) pm c' ctv)) (hfn : H f = none) (hfr : f ∉ frs X.stack)
    (hbind : bindArgs (PySem.W.kla_fn "<lambda>" (X.env.qual ++ "<lambda>") params body scope (cloFrom X.env.cells scope.names []) pm (.ref c') ctv) ⟨[], []⟩ = pure [])
    (tk : L2N.Takes ((cxOf CXg X.prog X.w X.K X.mg X.base Ng qg sg g cdg X.A X.stack s H Eg).tr pn xe) W) (hW : ∀ cls d σ' H', E cls d H' → W cls d σ' H') (hr : Room (k + 1) (X.A.deeper (PyProof.Rows.envOfC qg sg s.heap.objs.size g cdg)))
    (hbody : ∀ (A : Around) (outer : List Env) (s : Shared) (H : Hp), Room k (A.deeper (LamX.lamEnv X scope s.heap.objs.size f c')) → PE (lamN X A outer s H E scope f c') body tb)
    (hN : Ng[i]? = some a) (hv : Vis sg a) (hd : (a == ("__debug__" : Str)) = false := by decide) (hcd : (a == ("__classdict__" : Str)) = false := by decide) :
    PE ((cxOf CXg X.prog X.w X.K X.mg X.base Ng qg sg g cdg X.A X.stack s H Eg).tr pn xe) (.Call (.Name a p1) [] [] p2)
      (fun σZ HZ Q => σZ[i]? = some (some (.ref f)) ∧ HZ c' = some (LamX.CodeO c' (X.env.qual ++ "<lambda>")) ∧ tb σ HZ Q) := by
  refine ⟨fun pinsZ sZ σZ HZ Q IZ h => ?_⟩
  obtain ⟨hs, hc, ht⟩ := h
  refine wpAny_Call_Name_kw (thn ((pe_var (pos := p1) (i := i) hN hv hd hcd).run pinsZ sZ σZ HZ (fun v H1 => v = .ref f ∧ H1 = HZ) IZ ⟨.ref f, hs, rfl, rfl⟩) fun u s1 ⟨v, H1, I1, r1, q1⟩ => ?_)
  obtain ⟨ev, eH⟩ := q1
  subst ev
  rw [eH] at I1
  obtain rfl : u = Value.ref f := r1
  have of1 : s1.heap.get? f = some (PySem.W.kla_obj "<lambda>" (X.env.qual ++ "<lambda>") params body scope (cloFrom X.env.cells scope.names []) pm c' ctv) := I1.base.keep f _ hf hfn hfr (fun z => nomatch (show f ∈ ([] : List Addr) from z))
  refine PySem.W.callWith_F0 ⟨_, _, _, _, of1⟩ ?_
  have un : Un (frs X.stack) [] H HZ s.heap s1.heap := I1.base
  obtain ⟨⟨oc, vs, t, hoc, hdc, hvc⟩, _, _⟩ := I1.hok c' _ hc
  have rc : codeAny (model X.prog X.w) (X.A.deeper (PyProof.Rows.envOfC qg sg s.heap.objs.size g cdg)) (.call (.ref f) ⟨[], []⟩) (CR (L2N.CX X.prog X.w) (PyProof.Rows.envOfC qg sg s.heap.objs.size g cdg :: X.stack) X.prog X.w HZ s1 Q E) s1 := by
    refine PySem.W.kla_callFunE hr.depth of1 rfl L.co L.gen rfl ⟨c', oc, vs, t, rfl, hoc, hdc, hvc⟩ ?_
    rw [hbind]
    refine wpAny_pure (wpAny_newFunctionEnv (fun y hy => (L.own y hy).2) (fun y hy => absurd hy (by simp)) (fun h₁ hns hsb => ⟨I1.nolimit.fresh _ hsb, ?_⟩) L.kind)
    show codeAny _ _ (.expr body (LamX.lamEnv X scope s1.heap.objs.size f c')) _ _
    have kp : ∀ b o, s1.heap.get? b = some o → h₁.get? b = some o := fun b o e => hsb.extBut b o (Nat.ne_of_lt (Heap.lt_size e)) (Heap.get?_push_of_some _ e)
    have J : Inv (LamX.lamCx X (X.A.deeper (PyProof.Rows.envOfC qg sg s.heap.objs.size g cdg)) (PyProof.Rows.envOfC qg sg s.heap.objs.size g cdg :: X.stack) s1 HZ E scope f c') [] σ HZ { s1 with heap := h₁, toks := s1.toks + ([] : List (Str × Value)).length } :=
      LamX.lam_start2 I L I1.env0 hr.hd un hns kp
    have J2 : Inv (lamN X (X.A.deeper (PyProof.Rows.envOfC qg sg s.heap.objs.size g cdg)) (PyProof.Rows.envOfC qg sg s.heap.objs.size g cdg :: X.stack) s1 HZ E scope f c') [] σ HZ { s1 with heap := h₁, toks := s1.toks + ([] : List (Str × Value)).length } := J.toTry _
    refine PySem.W.kla_codeExpr (wpAny_mono ((hbody _ _ s1 HZ (hr.deeper _)).run [] _ _ HZ Q J2 ht) (fun v s' hq => ?_) fun e s' hq => hq)
    obtain ⟨w', H', J', rv, q⟩ := hq
    exact ⟨w', H', J'.os, J'.bare, J'.base, J'.hok, rv, q⟩
  have hx : Passes (L2N.CX X.prog X.w) ((cxOf CXg X.prog X.w X.K X.mg X.base Ng qg sg g cdg X.A X.stack s H Eg).tr pn xe) E := L2N.passes_call tk hW
  refine wpAny_call (codeAny_mono rc fun r s' hq => ?_)
  cases r with
  | error e => exact hx pinsZ σZ HZ s1 e s' I1 hq
  | ok fl =>
    cases fl with
    | ret u => exact I1.after hq
    | next => exact False.elim hq
    | brk => exact False.elim hq
    | cont => exact False.elim hq
end
end Mi
set_option Elab.async false
set_option linter.all false
set_option maxRecDepth 100000
set_option maxHeartbeats 4000000
namespace Mi
open PySem L2
section
variable {X : Cx} {pins : List (Addr × Obj)} {σ : L2.St} {H : Hp} {s : Shared}
theorem lam_make3 {T : List (Addr × Str)} {c P : Addr} {params : Arguments} {body : Expr} {scope : Scope} {pos : Pos} {E : Value → Shared → Prop} {Q : Value → Shared → Prop} (I : Inv X pins σ H s) (TB : LamX.TabB X.base X.mg c P) (hcode : X.env.code = .ref c)
    (hm : (P, X.env.qual ++ "<lambda>") ∈ T) (hu : ∀ p ∈ T, p.1 = P → p.2 = X.env.qual ++ "<lambda>") (hT : LamX.Tabs T H) (hdef : defaultsOf params X.env = ([], [])) (hfree : ∀ y ∈ scope.names, y.2 = .free → ∃ c, X.env.cells.lookup y.1 = some c)
    (h : ∀ (f c' : Addr) (pm ctv : Value) (H1 : Hp) (s' : Shared), Inv X pins σ H1 s' → LamX.ExtN H H1 → (∀ a ps, H a = some (.tbl ps) → ∃ ps', H1 a = some (.tbl ps')) → LamX.Tabs T H1 →
      s'.heap.get? f = some (PySem.W.kla_obj "<lambda>" (X.env.qual ++ "<lambda>") params body scope (cloFrom X.env.cells scope.names []) pm c' ctv) → H1 f = none → f ∉ frs X.stack → H1 c' = some (LamX.CodeO c' (X.env.qual ++ "<lambda>")) → Q (.ref f) s') :
    wpAny (model X.prog X.w) X.A (eval (.Lambda params body scope pos) X.env) Q E s := by
  obtain ⟨ps, hP, ht, ha⟩ := hT _ hm
  refine PySem.W.kla_eval hdef ?_
  have bP : s.heap.BuiltinsAt X.mg P := TB.bm.keeps I.bk
  have hP' : s.heap.get? P = some { cls := .none, data := .fields ps } := I.hok P _ hP
  have nofr : ∀ f, s.heap.objs.size ≤ f → f ∉ frs X.stack := fun f hf z => by
    rcases List.mem_cons.mp (I.stkSub _ z) with e | e
    · have h1 := I.lt
      rw [← e] at h1
      exact Nat.lt_irrefl _ (Nat.lt_of_lt_of_le h1 hf)
    · exact I.nofs hf e
  cases hc : codeAmong pos ps.toList with
  | none =>
    refine PySem.W.kla_makeFunction (mg := X.mg) (c := c) (P := P) (ps := ps) (closure_ok hfree) I.ok.glob (I.mod.glob.keeps I.bk) hcode (TB.code.keeps I.bk) hP' ht hc TB.gP bP fun c' ctv h' tk hx hge hlt hrec htb => ?_
    obtain ⟨c2, oc, vs, t, e2, hoc, hd, hv⟩ := hrec
    cases e2
    have hsz : s.heap.objs.size ≤ h'.objs.size := Nat.le_trans hge (Nat.le_of_lt hlt)
    have nC : H c' = none := I.hok.fresh hge
    have I1 := LamX.inv_table (t' := tk) (more := #[rawInt pos.line, rawInt pos.col, .ref c']) (h' := h'.push (PySem.W.kla_obj "<lambda>" (X.env.qual ++ "<lambda>") params body scope (cloFrom X.env.cells scope.names []) ((X.mg "__name__").getD .none) c' ctv)) I hP
      (fun b o hb e => Heap.get?_push_of_some _ (hx b o hb e)) (Heap.get?_push_of_some _ htb) hge ⟨oc, vs, t, Heap.get?_push_of_some _ hoc, hd, hv⟩
    have hE : LamX.ExtN H (upd (upd H P (.tbl (ps ++ #[rawInt pos.line, rawInt pos.col, .ref c']))) c' (LamX.CodeO c' (X.env.qual ++ "<lambda>"))) := fun b o e n => by
      rw [upd_ne (ne_of_none e nC), upd_ne (fun z => n ps (Option.some.inj (e.symm.trans (by rw [z]; exact hP))))]
      exact e
    have eL : (ps ++ #[rawInt pos.line, rawInt pos.col, .ref c']).toList = ps.toList ++ [rawInt pos.line, rawInt pos.col, .ref c'] := by simp
    refine h h'.objs.size c' ((X.mg "__name__").getD .none) ctv _ _ I1 hE (fun b qs e => by
      by_cases hb : b = P
      · rw [hb]; exact ⟨_, by rw [upd_ne (ne_of_none hP nC), upd_same]⟩
      · exact ⟨qs, by rw [upd_ne (ne_of_none e nC), upd_ne hb]; exact e⟩) (fun p hp => ?_) (Heap.get?_push_size _ rfl) ?_ (nofr _ hsz) upd_same
    · by_cases hb : p.1 = P
      · rw [hu p hp hb, hb]
        refine ⟨_, by rw [upd_ne (ne_of_none hP nC), upd_same], by rw [eL]; exact PySem.TriplesOk_snoc _ _ _ _ ht, fun p' cv hcv => ?_⟩
        rw [eL] at hcv
        rcases LamX.among_app _ ht hcv with z | z
        · obtain ⟨c0, e1, e2⟩ := ha p' cv z
          exact ⟨c0, e1, hE _ _ e2 LamX.codeO_ne⟩
        · exact ⟨c', z, upd_same⟩
      · obtain ⟨ps', a1, a2, a3⟩ := hT p hp
        refine ⟨ps', by rw [upd_ne (ne_of_none a1 nC), upd_ne hb]; exact a1, a2, fun p' cv hcv => ?_⟩
        obtain ⟨c0, e1, e2⟩ := a3 p' cv hcv
        exact ⟨c0, e1, hE _ _ e2 LamX.codeO_ne⟩
    · have n1 : h'.objs.size ≠ c' := Nat.ne_of_gt hlt
      have n2 : h'.objs.size ≠ P := Nat.ne_of_gt (Nat.lt_of_lt_of_le (Heap.lt_size hP') hsz)
      rw [upd_ne n1, upd_ne n2]
      exact I.hok.fresh hsz
  | some cv =>
    obtain ⟨c', e, hco⟩ := ha pos cv hc
    subst e
    refine PySem.W.kla_makeFunctionHit (mg := X.mg) (c := c) (P := P) (ps := ps) (closure_ok hfree) I.ok.glob (I.mod.glob.keeps I.bk) hcode (TB.code.keeps I.bk) hP' ht hc bP fun ctv h' tk hx hsz => ?_
    have I1 : Inv X pins σ H { s with heap := h'.push (PySem.W.kla_obj "<lambda>" (X.env.qual ++ "<lambda>") params body scope (cloFrom X.env.cells scope.names []) ((X.mg "__name__").getD .none) c' ctv), toks := tk } := I.kept fun b o e => Heap.get?_push_of_some _ (hx b o e)
    exact h h'.objs.size c' ((X.mg "__name__").getD .none) ctv H _ I1 (LamX.ExtN.refl H) (fun a ps e => ⟨ps, e⟩) hT (Heap.get?_push_size _ rfl) (I.hok.fresh hsz) (nofr _ hsz) hco
end
/-- as LamX.tLam, the tables kept tables -/
def tLamT (T : List (Addr × Str)) (TT : (XK → Hp → VK → Prop) → Hp → VK → Prop) (t : XK → TE) : TE := fun σ H Q => LamX.Tabs T H ∧ ∀ H1, LamX.ExtN H H1 → (∀ a ps, H a = some (.tbl ps) → ∃ ps', H1 a = some (.tbl ps')) → LamX.Tabs T H1 → TT (fun E H' Q' => t E σ H' Q') H1 Q
section
variable {X : Cx}
/-- the def that calls what it got -/
def GivesN (X : Cx) (Ng : List Str) (x : Str) (sg : Scope) (g : Addr) (cdg : Value) (bg : List Stmt) (a : Str) (q : Str) (k : Nat) (TT : (XK → Hp → VK → Prop) → Hp → VK → Prop) : Prop :=
  ∀ (f c' : Addr) (s : Shared) (H : Hp) (Q : VK) (tl : XK → Hp → VK → Prop), Room k (X.A.deeper (PyProof.Rows.envOfC x sg s.heap.objs.size g cdg)) →
    (∀ (W : WX) (pn : List (Addr × Obj)) (xe : Value → Shared → Prop) (E : XK) (p1 p2 : Pos), L2N.Takes ((cxOf C8.CX0 X.prog X.w X.K X.mg X.base Ng x sg g cdg X.A X.stack s H C8.E0).tr pn xe) W → (∀ cls d σ' H', E cls d H' → W cls d σ' H') →
      PE ((cxOf C8.CX0 X.prog X.w X.K X.mg X.base Ng x sg g cdg X.A X.stack s H C8.E0).tr pn xe) (.Call (.Name a p1) [] [] p2) (fun σZ HZ Q => σZ[0]? = some (some (.ref f)) ∧ HZ c' = some (LamX.CodeO c' q) ∧ tl E HZ Q)) →
    H c' = some (LamX.CodeO c' q) → TT tl H Q →
    ∃ t, PSs (cxOf C8.CX0 X.prog X.w X.K X.mg X.base Ng x sg g cdg X.A X.stack s H C8.E0).nox bg t ∧ t { nx := fun _ H' => Q .non H', rt := Q } (L2.start Ng [.ref f]) H
theorem pe_lamcallN {T : List (Addr × Str)} {TT : (XK → Hp → VK → Prop) → Hp → VK → Prop} {x a : Str} {g c P : Addr} {k : Nat} {pg : Arguments} {bg : List Stmt} {sg : Scope} {dV kV doc pm cdv ct oc : Value} {an od : Option Addr} {osl : Array (Option Value)} {Ng : List Str}
    {params : Arguments} {body : Expr} {scope : Scope} {t : XK → TE} {p lpos pos : Pos} (hg : Gl X x) (hm : X.mg x = some (.ref g)) (hk : PySem.W.keepIn X.K (.ref g) = true)
    (lk : X.K.lookup g = some ⟨oc, od, .func (PySem.W.fnOf x x pg bg sg dV kV doc pm an cdv ct), osl⟩) (hcg : PySem.W.codeIn X.K cdv x = true) (hb : L2.Binds X.K (PySem.W.fnOf x x pg bg sg dV kV doc pm an cdv ct) [a] []) (Sg : FnScope Ng [a] sg) (hNg : Ng[0]? = some a) (hva : Vis sg a)
    (hG : GivesN X Ng x sg g cdv bg a (X.env.qual ++ "<lambda>") (k + 1) TT)
    (TB : LamX.TabB X.base X.mg c P) (hcode : X.env.code = .ref c) (hmT : (P, X.env.qual ++ "<lambda>") ∈ T) (hu : ∀ p ∈ T, p.1 = P → p.2 = X.env.qual ++ "<lambda>") (hr : Room (k + 2) X.A) (L : LamX.LamS X.env.scope scope) (hdef : defaultsOf params X.env = ([], []))
    (hbind : ∀ (q : Str) (cl : List (Str × Addr)) (pm cv ctv : Value), bindArgs (PySem.W.kla_fn "<lambda>" q params body scope cl pm cv ctv) ⟨[], []⟩ = pure [])
    (hbody : ∀ (A : Around) (outer : List Env) (s : Shared) (H : Hp) (E : XK) (f c' : Addr), Room k (A.deeper (LamX.lamEnv X scope s.heap.objs.size f c')) → PE (lamN X A outer s H E scope f c') body (t E))
    (hdb : (x == ("__debug__" : Str)) = false := by decide) (hd : (a == ("__debug__" : Str)) = false := by decide) (hcd : (a == ("__classdict__" : Str)) = false := by decide) :
    PE X (.Call (.Name x p) [.Lambda params body scope lpos] [] pos) (tLamT T TT t) := by
  refine ⟨fun pins s σ H Q I h => ?_⟩
  obtain ⟨hT, h⟩ := h
  refine wpAny_Call_Name_kw (ld_glob I hg hm ?_ hdb)
  refine PySem.W.callWith_K (h₀ := X.base) I.ok.mod.kin hk ?_ (by rfl) (by rfl)
  show wpAny _ _ (spliced ((false, eval (.Lambda params body scope lpos) X.env) :: backTo pos (starEach [] X.env))) _ _ s
  refine Calls.spliced_cons (lam_make3 I TB hcode hmT hu hT hdef (L.has I.ok) fun f c' pm' ctv H1 s' I1 eN eT T1 hf hfn hfr hco => ?_)
  refine Calls.spliced_nil ⟨I1.kIn, ?_⟩
  have rc : codeAny (model X.prog X.w) X.A (.call (.ref g) ⟨[.ref f], []⟩) (CR C8.CX0 X.stack X.prog X.w H1 s' Q C8.E0) s' := by
    refine LamX.run_ofS (N := Ng) (ps := [a]) (us := [.ref f]) (vs := [.ref f]) lk hcg Sg hr I1.env0 (hb s' [.ref f] I1.kIn rfl) (.cons rfl .nil) rfl fun hr' => ?_
    obtain ⟨t', ht', hq'⟩ := hG f c' s' H1 Q (fun E H' Q' => t E σ H' Q') hr' (fun W pn xe E p1 p2 tk hW => pe_actN (i := 0) I1 L hf hfn hfr (hbind _ _ _ _ _) tk hW hr' (fun A outer s H hr2 => hbody A outer s H E f c' hr2) hNg hva hd hcd) hco (h H1 eN eT T1)
    exact ⟨t', ht'.nox, hq'⟩
  refine wpAny_call (codeAny_mono rc fun r s2 hq => ?_)
  cases r with
  | error e => exact (show False from hq).elim
  | ok fl =>
    cases fl with
    | ret u => exact I1.after hq
    | next => exact False.elim hq
    | brk => exact False.elim hq
    | cont => exact False.elim hq
end
end Mi
set_option Elab.async false
set_option linter.all false
set_option maxRecDepth 100000
set_option maxHeartbeats 4000000
namespace Mi
open PySem L2
/-- what the def that names a refusal wants and gives -/
def TermR (Kd : Value → Str → Prop) (cls : Value) (H : Hp) (Q : VK) : Prop := ∃ name, Kd cls name ∧ ∀ q o H', (∀ b u, H b = some u → H' b = some u) → H q = none → H' q = some (.frz o (.tup [.str "refused", .str name])) → o.dict = none → Q (.ref q) H'
structure TermOk (P : Program) (w : World) (K : Fg) (mg : Str → Option Value) (base : Heap) (k : Nat) (f : Addr) (fd : FuncData) (Kd : Value → Str → Prop) : Prop where
  run : ∀ (A : Around) (outer : List Env) (s : Shared) (H : Hp) (args : Args) (Q : VK) (p : Addr × Obj) (cls : Value), L2H.RoomH k A → L2H.Hot1 A p → L2H.PinOk outer H s p → L2N.Zn cls none p.2 → (∃ vs, p.2.data = .fields vs) → Env0 P w K mg base A outer s H → BindsTo s fd args [("_law_e", .ref p.1)] → TermR Kd cls H Q →
    codeAny (model P w) A (.call (.ref f) args) (CR C8.CX0 outer P w H s Q C8.E0) s
section
variable {X : Cx} {Kd : Value → Str → Prop}
theorem pe_term {f a : Addr} {fd : FuncData} {oe : Obj} {cls : Value} {pn : List (Addr × Obj)} {k i : Nat} {q xp pos : Pos} (F : TermOk X.prog X.w X.K X.mg X.base k f fd Kd) (hr : L2H.RoomH k (X.A.mark (some (.ref a)))) (hz : L2N.Zn cls none oe) (hv : ∃ vs, oe.data = .fields vs)
    (hg : Gl X "_law_term") (hm : X.mg "_law_term" = some (.ref f)) (hk : PySem.W.keepIn X.K (.ref f) = true) (hb : Binds X.K fd ["_law_e"] []) (hN : X.N[i]? = some "_law_e") (hvis : Vis X.env.scope "_law_e") :
    PE (X.suite a ((a, oe) :: pn)) (.Call (.Name "_law_term" q) [.Name "_law_e" xp] [] pos) (fun σ H Q => σ[i]? = some (some (.ref a)) ∧ TermR Kd cls H Q) := by
  refine ⟨fun pins s σ H Q I h => ?_⟩
  obtain ⟨h0, h⟩ := h
  have ha : PA (X.suite a ((a, oe) :: pn)) [.Name "_law_e" xp] (tCons (tVar i) tNil) := pa_cons (pe_var (X := X.suite a ((a, oe) :: pn)) (i := i) hN hvis) pa_nil
  refine wpAny_Call_Name_kw (ld_glob (X := X.suite a ((a, oe) :: pn)) I hg hm ?_ (by decide))
  refine PySem.W.callWith_K (h₀ := X.base) I.ok.mod.kin hk (thn (ha.run pos pins s σ H (fun vs H1 => vs = [.ref a] ∧ H1 = H) I ⟨_, h0, rfl, rfl⟩) fun us s1 ⟨vs, H1, I1, r, e1, e2⟩ => ⟨I1.kIn, ?_⟩)
  subst e1 e2
  obtain ⟨u, rfl, ru⟩ := Vals.one r
  cases ru
  obtain ⟨vs, hvs⟩ := hv
  have hot : L2H.Hot1 (X.suite a ((a, oe) :: pn)).A (a, oe) := ⟨rfl, vs, hvs, hz.2.2 vs hvs⟩
  have P1 := I1.pin (a, oe) (List.mem_append_left _ List.mem_cons_self)
  have hpin : L2H.PinOk X.stack H1 s1 (a, oe) := ⟨P1.1, P1.2.1, fun hmm => (List.mem_cons.mp (I1.stkSub a hmm)).elim P1.2.2.1 P1.2.2.2.1, P1.2.2.2.2⟩
  have b := hb s1 [.ref a] I1.kIn rfl
  refine wpAny_call (codeAny_mono (F.run _ X.stack s1 H1 ⟨[.ref a], []⟩ Q (a, oe) cls hr hot hpin hz ⟨vs, hvs⟩ I1.env0 b h) fun r s' hq => ?_)
  cases r with
  | error e => exact (show False from hq).elim
  | ok fl =>
    cases fl with
    | ret u => exact I1.after hq
    | next => exact False.elim hq
    | brk => exact False.elim hq
    | cont => exact False.elim hq
theorem L2N_takes0 {X : Cx} : L2N.Takes X (fun _ _ _ _ => False) := fun _ _ ⟨_, _, _, _, _, _, _, _, _, _, _, _, _, _, _, _, w⟩ => w.elim
def TTold2 (K : Fg) (c1 c2 : Value) (Kd : Value → Str → Prop) : (XK → Hp → VK → Prop) → Hp → VK → Prop := fun tl H Q =>
  tl (fun cls d H' => PySem.W.exmOne K cls c1 = some false ∧ PySem.W.exmOne K cls c2 = some true ∧ d = none ∧ TermR Kd cls H' Q) H Q
theorem told_givesN {sg : Scope} {g CS TM f : Addr} {fd : FuncData} {cdg : Value} {k j : Nat} {q : Str} {su1 : List Stmt} {b1 : Stmt} {p1 p2 p3 p4 p5 p6 p7 p8 p9 p10 p11 p12 : Pos} (F : TermOk X.prog X.w X.K X.mg X.base j f fd Kd) (hj : j ≤ k)
    (hgT : sg.names.lookup ("TooMuch" : Str) = some .globalImplicit) (hgC : sg.names.lookup ("CastError" : Str) = some .globalImplicit) (hgt : sg.names.lookup ("_law_term" : Str) = some .globalImplicit) (hle : sg.names.lookup ("_law_e" : Str) = some .local)
    (hmT : X.mg "TooMuch" = some (.ref TM)) (hmC : X.mg "CastError" = some (.ref CS)) (hmt : X.mg "_law_term" = some (.ref f)) (hk : PySem.W.keepIn X.K (.ref f) = true) (hb : Binds X.K fd ["_law_e"] []) :
    GivesN X ["_law_deed", "_law_e"] "_law_told" sg g cdg [.Try [.Return (some (.Call (.Name "_law_deed" p1) [] [] p2)) p3] [.ExceptHandler (some (.Name "TooMuch" p4)) (some "_law_e") (b1 :: su1) p5, .ExceptHandler (some (.Name "CastError" p6)) (some "_law_e") [.Return (some (.Call (.Name "_law_term" p7) [.Name "_law_e" p8] [] p9)) p10] p11] [] [] p12] "_law_deed" q k (TTold2 X.K (.ref TM) (.ref CS) Kd) := by
  intro f0 c' s H Q tl hroom act hc h
  refine ⟨_, pss_one (ps_try_asL (X := (cxOf C8.CX0 X.prog X.w X.K X.mg X.base ["_law_deed", "_law_e"] "_law_told" sg g cdg X.A X.stack s H C8.E0).nox) (n := "_law_e") (i := 1) (Wout := fun _ _ _ _ => False)
      (tb := fun W D σ H => ∃ Ech : XK, (∀ cls d σ' H', Ech cls d H' → W cls d σ' H') ∧ σ[0]? = some (some (.ref f0)) ∧ H c' = some (LamX.CodeO c' q) ∧ tl Ech H D.rt)
      rfl rfl (by show (["_law_deed", "_law_e"] : List Str).Nodup; decide) rfl hle L2N_takes0 (fun W pn xe tk _ => ?_)
      (.cons (c := .ref TM) (ts := fun _ _ _ _ _ _ => False) ⟨hgT, by decide, .inl hmT⟩ (fun _ _ _ _ _ _ _ => ⟨fun _ _ _ _ _ _ z => z.elim⟩)
        (.cons (c := .ref CS) (ts := fun a cls d D σ H => d = none ∧ (1 < σ.length → σ[1]? = some (some (.ref a))) ∧ TermR Kd cls H D.rt) ⟨hgC, by decide, .inl hmC⟩ (fun a oe cls d pn hz hv => ?_) .nil))), ?_⟩
  · refine ⟨fun pins s' σ H' D I h' => ?_⟩
    obtain ⟨Ech, hW, h1, h2, h3⟩ := h'
    have hp := act W pn xe Ech p1 p2 tk hW
    exact (pss_one (ps_ret (pos := p3) hp)).run pins s' σ H' D I ⟨h1, h2, h3⟩
  · refine ⟨fun pins s' σ H' D I ⟨hd, h1, h2⟩ => ?_⟩
    subst hd
    have hp := pe_term (X := (cxOf C8.CX0 X.prog X.w X.K X.mg X.base ["_law_deed", "_law_e"] "_law_told" sg g cdg X.A X.stack s H C8.E0).nox) (a := a) (pn := pn) (i := 1) (q := p7) (xp := p8) (pos := p9) F ⟨((L2H.roomH_of hroom).mono hj).dp, ((L2H.roomH_of hroom).mono hj).un⟩ hz hv hgt hmt hk hb rfl (.inl hle)
    exact (pss_one (ps_ret (pos := p10) hp)).run pins s' σ H' D I ⟨h1 (by rw [I.len]; show 1 < 2; decide), h2⟩
  · refine ⟨fun cls d H' => PySem.W.exmOne X.K cls (.ref TM) = some false ∧ PySem.W.exmOne X.K cls (.ref CS) = some true ∧ d = none ∧ TermR Kd cls H' Q, fun cls d σ' H' ⟨e1, e2, e3, e4⟩ => ⟨false, e1, fun z => (nomatch z), fun _ => ⟨true, e2, fun _ a _ => ⟨e3, fun hl => List.getElem?_set_self (by simpa using hl), e4⟩, fun z => (nomatch z)⟩⟩, rfl, hc, h⟩
end
def toldX (ns : List Str) (e : Exn) : Res D := match e.lacks with
  | none => if e.cls ∈ ns then .ok (.tuple [.str "refused", .str e.cls]) else .stuck
  | some _ => .stuck
def toldK (ns : List Str) (o : Out D) : Out D := match o with
  | .ok d ρ => .ok d ρ
  | .exn e ρ => lift (toldX ns e) ρ
  | .stuck => .stuck
def toldE (ns : List Str) (f : MM D) : MM D := fun ρ => toldK ns (f ρ)
/-- what is known of a class that refusals bear -/
def KdOf (K : Fg) (ns : List Str) : Value → Str → Prop := fun cls name => name ∈ ns ∧ cls = .ref (He.ga K name)
theorem told_to {K : Fg} {T : Tb} {c : Gh} {W : WX} {c1 c2 : Value} {ns : List Str} {f : MM D} (hx : ∀ x ∈ ns, PySem.W.exmOne K (.ref (He.ga K x)) c1 = some false ∧ PySem.W.exmOne K (.ref (He.ga K x)) c2 = some true) (σ : St) (H : Hp) (Q : VK) (h : mE K T c W (toldE ns f) σ H Q) : tLamT T (TTold2 K c1 c2 (KdOf K ns)) (fun E => mE K T c (fun cls d _ H => E cls d H) f) σ H Q := by
  obtain ⟨G, ρ, j, p⟩ := h
  refine ⟨j.tb.1, fun H1 eN eT T0 => ?_⟩
  have T1 : TabsC T H1 := ⟨T0, fun p hp => eN _ _ (j.tb.2 p hp) LamX.codeO_ne⟩
  have j1 : J K T c G H1 σ ρ := j.after ⟨Le.refl G, fun a o e => eN a o (j.sub a o e) (fun ps z => j.nt a ps (by rw [e, z])), fun _ e _ => e, eN, eT, T1, j.nt, rfl⟩
  refine ⟨G, ρ, j1, ?_⟩
  have p2 : pX K T c W (relD K) σ G Q (toldK ns (f ρ)) := p
  cases z : f ρ with
  | ok d ρ' => rw [z] at p2; exact p2
  | stuck => rw [z] at p2; exact p2.elim
  | exn e ρ' =>
    rw [z] at p2
    intro cls dx G' H' l j' i
    obtain ⟨i1, i2⟩ := i
    unfold toldK toldX at p2
    cases hl : e.lacks with
    | some n => simp only [hl] at p2; exact p2.elim
    | none =>
      simp only [hl] at p2 i2
      by_cases hm : e.cls ∈ ns
      case neg => rw [if_neg hm] at p2; exact p2.elim
      rw [if_pos hm] at p2
      obtain ⟨x1, x2⟩ := hx _ hm
      refine ⟨by rw [i1]; exact x1, by rw [i1]; exact x2, i2, e.cls, ⟨hm, i1⟩, fun q o H'' eb hq hh ho => ?_⟩
      have hG : G' q = none := j'.fresh hq
      have jg : J K T c (wupd G' q (.frz o (.tup [.str "refused", .str e.cls]))) H'' σ ρ' := by
        refine j'.after ⟨Le.upd hG, fun a u ea => ?_, fun a ga ha => ?_, fun a u ea _ => eb a u ea, fun a ps ea => ⟨ps, eb a _ ea⟩, j'.tb.ext eb, fun a ps ea => ?_, rfl⟩
        · have ea : upd G'.hp q _ a = _ := ea
          by_cases y : a = q
          · rw [y, upd_same] at ea; rw [y, hh]; exact ea
          · rw [upd_ne y] at ea; exact eb a u (j'.sub a u ea)
        · show upd G'.hp q _ a = none
          by_cases y : a = q
          · rw [y] at ha; exact absurd hq ha
          · rw [upd_ne y]; exact ga
        · have ea : upd G'.hp q _ a = _ := ea
          by_cases y : a = q
          · rw [y, upd_same] at ea; cases ea
          · rw [upd_ne y] at ea; exact j'.nt a ps ea
      exact p2 _ _ _ (l.trans (Le.upd hG)) jg (.tup (.inl ⟨o, upd_same, ho⟩) (.cons (.str _) (.cons (.str _) .nil)))
section
variable {X : Cx} {T : Tb} {c : Gh} {W : WX}
/-- raise x('..'), x an own class of refusals -/
def raiseS (x : Str) : MM Fl := fun ρ => .exn ⟨x, none⟩ ρ
theorem ms_raise {x m : Str} {j : Nat} {p p2 pos pos' : Pos} (hc : X.calm = true) (tk : L2N.Takes X W) (fx : (He.Fa.exc x).ok X.K = true) (gC : X.mg x = some (.ref (He.ga X.K x))) (hg : Gl X x) (hdb : (x == ("__debug__" : Str)) = false := by decide) :
    PS X (.Raise (some (.Call (.Name x p) [.Constant (.str m) j p2] [] pos)) none pos') (mS X.K T c W (raiseS x)) := by
  obtain ⟨e1, e2, e3, e4⟩ := He.exc_ok fx
  refine ps_mono (L2N.ps_raise hc tk (L2N.pmk_own PySem.F.excBase_ValueError e1 gC e2 (raises_own e3 e4) hg hdb)) fun Dn σ H ⟨G, ρ, jj, pp⟩ => pp _ none σ G H (Le.refl G) jj ⟨rfl, rfl⟩
end
end Mi
set_option Elab.async false
set_option linter.all false
set_option maxRecDepth 100000
set_option maxHeartbeats 4000000
namespace Mi
open PySem L2
section
variable {P : Program} {w : World} {K : Fg} {mg : Str → Option Value} {base : Heap} {Kd : Value → Str → Prop}
theorem term_of {st : Stmt} {f : Addr} {fd : FuncData} {N : List Str} {k : Nat} (F : Fun K "_law_term" "_law_term" st f fd) (S : FnScope N ["_law_e"] (defScope st))
    (hbody : ∀ (cdv : Value) (A : Around) (outer : List Env) (s : Shared) (H : Hp) (Q : VK) (p : Addr × Obj) (cls : Value), L2H.Hot1 A p → L2H.RoomH k (A.deeper (PyProof.Rows.envOfC "_law_term" (defScope st) s.heap.objs.size f cdv)) → L2N.Zn cls none p.2 → (∃ vs, p.2.data = .fields vs) → TermR Kd cls H Q →
      ∃ t, PSs (L2H.cxH C8.CX0 P w K mg base N "_law_term" (defScope st) f cdv A outer s H C8.E0 p) (defBody st) t ∧ t { nx := fun _ H' => Q .non H', rt := Q } (L2.start N [.ref p.1]) H) : TermOk P w K mg base (k + 1) f fd Kd := by
  obtain ⟨oc, od, kV, doc, pm, an, cdv, ct, osl, rfl, lk, hcd⟩ := F.ex
  refine ⟨fun A outer s H args Q p cls hr hot hpin hz hv e0 hb hsp => ?_⟩
  have KX : K.In s.heap := e0.mod.kin.keeps fun b o e => (e0.bs b o e).1
  have lim : s.heap.NoLimit := e0.mod.nolimit.keeps fun b o e => (e0.bs b o e).1
  have hkind : ∀ y ∈ (["_law_e"] : List Str).zip [Value.ref p.1], (defScope st).names.lookup y.1 = some .local ∨ ((defScope st).names.lookup y.1 = some .cell ∧ ((cellsFrom (s.heap.objs.size + 1) (defScope st).names []).lookup y.1).isSome = true) := fun ⟨n, v⟩ hy => by
    rcases S.par n (List.of_mem_zip hy).1 with q | q
    · exact .inl q
    · exact .inr ⟨q, PySem.W.cellsFrom_some _ _ _ (.inl q)⟩
  refine codeAny_call_function hr.depth (KX _ _ lk) rfl S.co S.gen rfl (PySem.W.codeRec_of KX hcd) (hb _ _ _ _ ?_)
  refine wpAny_newFunctionEnv_cells S.kind hkind fun env he s1 x => ?_
  subst he
  refine ⟨lim.keeps x.toInCall.keep, codeAny_func ?_⟩
  obtain ⟨t, ht, hq⟩ := hbody cdv A outer s H Q p cls hot (hr.deeper _) hz hv hsp
  have I : Inv (L2H.cxH C8.CX0 P w K mg base N "_law_term" (defScope st) f cdv A outer s H C8.E0 p) [] (L2.start N [.ref p.1]) H s1 := L2H.inv_startH S hpin e0 rfl (.cons rfl .nil) x
  refine wpAny_mono (ht.run [] s1 (L2.start N [.ref p.1]) H _ I hq) (fun fl s' hs => ?_) fun e s' hs => hs
  have fin : ∀ {σ' : L2.St} {H' : Hp} {v : V} {u : Value}, Inv (L2H.cxH C8.CX0 P w K mg base N "_law_term" (defScope st) f cdv A outer s H C8.E0 p) [] σ' H' s' → RelV v u → Q v H' → CE outer P w H s Q u s' := fun {σ' H' v u} J rv q => ⟨v, H', J.os, J.bare, J.base, J.hok, rv, q⟩
  cases fl with
  | ret u => obtain ⟨v, σ', H', J, rv, q⟩ := hs; exact fin J rv q
  | next => obtain ⟨σ', H', J, q⟩ := hs; exact fin (v := V.non) (u := Value.none) J rfl q
  | brk => obtain ⟨_, _, _, q⟩ := hs; exact False.elim q
  | cont => obtain ⟨_, _, _, q⟩ := hs; exact False.elim q
end
section
variable {X : Cx}
/-- isinstance(e, c), e the exception that is handled -/
theorem call_isP {p : Addr × Obj} {D : Addr} (C : ExcC X.K D) (hp : p ∈ X.pn) (hz : L2N.Zn (.ref D) none p.2) (hf : ∃ vs, p.2.data = .fields vs) : CallR X (.builtin "isinstance") (rIsE X.K D p.1) := by
  intro pins s σ H xs us Q I r h
  obtain ⟨c, cv, b, rfl, hcv, e, q⟩ := h
  obtain ⟨u, v, rfl, rx, rt⟩ := Vals.two r
  cases rx
  have ec := hcv _ rt
  subst ec
  obtain ⟨hget, _⟩ := I.pin p (List.mem_append_left _ hp)
  obtain ⟨vs, hv⟩ := hf
  have J : PySem.W.InstAt s.heap p.1 p.2 D none := by
    obtain ⟨a, oc, od, oda, osl⟩ := p
    obtain ⟨h1, h2, _⟩ := hz
    dsimp only at h1 h2 hv hget
    subst h1 h2 hv
    exact ⟨hget, rfl, rfl, trivial⟩
  exact PySem.W.kia_one (PySem.W.handS_kitx_exc C.hg C.hk C.hs C.hd C.ha C.hn C.ht C.hm) I.kIn J e (fun z => nomatch z) fun tk => ⟨.bl b, H, I.kept (t' := tk) fun _ _ z => z, rfl, q⟩
def tIsI (a : Addr) (b : Bool) : TE := fun σ H Q => σ[0]? = some (some (.ref a)) ∧ Q (.bl b) H
theorem pe_isP {p : Addr × Obj} {D C : Addr} {c : Str} {b : Bool} {p1 p2 p3 pos : Pos} (E : ExcC X.K D) (hp : p ∈ X.pn) (hz : L2N.Zn (.ref D) none p.2) (hf : ∃ vs, p.2.data = .fields vs) (hk : PySem.W.kitOne X.K (.ref D) (.ref C) = some b) (hg : Gl X "isinstance") (hm : X.mg "isinstance" = none) (hgC : Gl X c) (hmC : X.mg c = some (.ref C)) (hN : X.N[0]? = some ("_law_e" : Str)) (hv : Vis X.env.scope "_law_e") (hdc : (c == ("__debug__" : Str)) = false := by decide)
    (he : starEach [.Name "_law_e" p1, .Name c p2] X.env = (false, eval (.Name "_law_e" p1) X.env) :: starEach [.Name c p2] X.env := by rfl) (he2 : starEach [.Name c p2] X.env = (false, eval (.Name c p2) X.env) :: starEach [] X.env := by rfl) (hpl : (backTo pos (starEach [.Name c p2] X.env)).any (·.1) = false := by rfl) :
    PE X (.Call (.Name "isinstance" p3) [.Name "_law_e" p1, .Name c p2] [] pos) (tIsI p.1 b) := by
  refine pe_mono (pe_callB (call_isP E hp hz hf) hg hm bt_isinstance (pa_cons (pe_var (i := 0) hN hv) (pa_cons (pe_glob (v := V.ref C) hgC hmC rfl hdc) pa_nil he2) he) (by decide) (by decide) he hpl) fun σ H Q ⟨h1, h2⟩ => ?_
  exact ⟨_, h1, .ref C, .ref C, b, rfl, fun u r => r, hk, h2⟩
end
section
variable {prog : Program} {w : World} {A : Around} {E : Value → Shared → Prop} {s : Shared}
theorem sum_hotG {l x1 : Addr} {xs : Array (Int × Tok)} {Q : Value → Shared → Prop} (hot : HotX.HotAt A x1 s.heap) (hl : s.heap.IsList l (intItems xs))
    (h : ∀ h' tk t', (∀ b o, s.heap.get? b = some o → h'.get? b = some o) → Q (.int (preSum (numAt xs) xs.size) t') { s with heap := h', toks := tk }) :
    wpAny (model prog w) A (call (.builtin "sum") [.ref l]) Q E s := by
  refine call_sum_walkG (iter_intList hl fun s₂ e st hfp hlI => ?_)
  subst e
  obtain ⟨h0, o, vs, h1, h2⟩ := hot
  have hlt := Heap.lt_size h1
  refine ⟨_, _, _, _, _, _, numAt xs, rfl, walks_hot (A := A.in1) (x1 := x1) h0 hlI (Nat.ne_of_lt hlt) (intItems xs), ⟨st.1, st.2, h0, o, vs, Heap.get?_push_of_some _ h1, h2⟩, fun b hb => ?_, (fun _ _ => intItems_at), fun h' tk t' hk => ?_⟩
  · rcases List.mem_cons.mp hb with e | hb
    · exact hfp b (by simp [e])
    · rcases List.mem_cons.mp hb with e | hb
      · exact hfp b (by simp [e])
      · rcases List.mem_cons.mp hb with e | hb
        · rw [e]
          exact Heap.lt_size (Heap.get?_push_of_some _ h1)
        · cases hb
  · have := h h' tk t' (old_kept hk)
    simpa [intItems] using this
end
section
variable {X : Cx}
theorem call_sumP (hot : L2H.HotC X) : CallR X (.builtin "sum") (rSum X.K) := by
  intro pins s σ H vs us Q I r h
  obtain ⟨a, ns, rfl, hs, q⟩ := h
  obtain ⟨its, rv, hl, _⟩ := I.list hs
  rw [Vals.ref1 r]
  obtain ⟨x1, hat⟩ := hot.at I
  have hi := rv.ints
  obtain ⟨xs, e⟩ := hi.allInts.items
  have hn : numsOf (intItems xs).toList = ns := by rw [← e]; exact hi.numsOf
  rw [nums_intItems] at hn
  have hl2 := hl.isList
  rw [e] at hl2
  refine sum_hotG hat hl2 fun h' tk t' hk => ?_
  rw [preSum_eq, List.take_of_length_le (by simp), hn]
  exact ⟨.int _, H, I.kept hk, ⟨_, rfl⟩, q⟩
end
end Mi
set_option Elab.async false
set_option linter.all false
set_option maxRecDepth 100000
set_option maxHeartbeats 4000000
namespace Mi
open PySem L2
def tIsL (a : Addr) : List Bool → TA
  | [] => tNil
  | b :: bs => tCons (tIsI a b) (tIsL a bs)
def tStrs : List Str → TA
  | [] => tNil
  | x :: xs => tCons (tC (.str x)) (tStrs xs)
theorem isL_reads {a : Addr} {σ : St} {H : Hp} (h0 : σ[0]? = some (some (.ref a))) : ∀ {bs : List Bool} {Q : List V → Hp → Prop}, Q (bs.map V.bl) H → tIsL a bs σ H Q
  | [], Q, q => q
  | b :: bs, Q, q => ⟨h0, isL_reads h0 (bs := bs) q⟩
theorem strs_reads {σ : St} {H : Hp} : ∀ {xs : List Str} {Q : List V → Hp → Prop}, Q (xs.map V.str) H → tStrs xs σ H Q
  | [], Q, q => q
  | x :: xs, Q, q => strs_reads (xs := xs) q
def oneOf (bs : List Bool) : List Int := bs.map fun b => if b then 1 else 0
/-- the sum of the flags -/
abbrev tSumF (K : Fg) : TE := tCB (rSum K) (tCons (tLc (iLst K (tVar 1)) (gName 3) tYes (tCB (fun xs H Q => (∃ i, xs = [V.int i] ∧ Q (.int i) H) ∨ ∃ k, xs = [V.bl k] ∧ Q (.int (if k then 1 else 0)) H) (tCons (tVar 3) tNil)) [3]) tNil)
def tTerm (K : Fg) (a : Addr) (ve : Bool) (b1 b2 b3 b4 b5 : List Bool) (k1 k2 : List Str) : TS :=
  tSeq (tAsg (tLst (tIsL a b1)) (gName 1)) (tSeq (tAsg (tOp rCatL (tVar 1) (tLst (tIsL a b2))) (gName 1)) (tSeq (tAsg (tOp rCatL (tVar 1) (tLst (tIsL a b3))) (gName 1)) (tSeq (tAsg (tOp rCatL (tVar 1) (tLst (tIsL a b4))) (gName 1)) (tSeq (tAsg (tOp rCatL (tVar 1) (tLst (tIsL a b5))) (gName 1))
  (tSeq (tAsg (tLst (tStrs k1)) (gName 2)) (tSeq (tAsg (tOp rCatL (tVar 2) (tLst (tStrs k2))) (gName 2))
  (tSeq (tIfS (tOr (tTest (tOp rNe (tSumF K) (tC (.int 1)))) (tNot (tTest (tIsI a ve)))) (tRet (tTupF (tStrs ["refused", "other"]))) tNext)
  (tRet (tTupF (tCons (tC (.str "refused")) (tCons (tOp (rIxL K) (tVar 2) (tBM K "list" (rIndex K) (tVar 1) (tCons (tC (.bl true)) tNil))) tNil)))))))))))
theorem catL_reads {σ : St} {H : Hp} {i : Nat} {l : Addr} {xs zs : List V} {t : TA} {Q : VK} (h1 : σ[i]? = some (some (.ref l))) (h2 : H l = some (.lst xs)) (hl : xs.length + zs.length ≤ sizeLine) (ht : ∀ {Q : List V → Hp → Prop}, Q zs H → t σ H Q)
    (q : ∀ p H', (∀ b o, H b = some o → H' b = some o) → H' p = some (.lst (xs ++ zs)) → Q (.ref p) H') : tOp rCatL (tVar i) (tLst t) σ H Q := by
  refine ⟨_, h1, ht ⟨by omega, fun p hp => ?_⟩⟩
  have e1 : ∀ b o, H b = some o → upd H p (.lst zs) b = some o := fun b o e => by rw [upd_ne (ne_of_none e hp)]; exact e
  refine ⟨l, p, xs, zs, rfl, rfl, .inl (e1 _ _ h2), .inl upd_same, hl, fun p2 hp2 => q p2 _ (fun b o e => ?_) upd_same⟩
  rw [upd_ne (ne_of_none (e1 _ _ e) hp2)]
  exact e1 _ _ e
theorem sumF_reads {K : Fg} {σ : St} {H : Hp} {l : Addr} {bs : List Bool} {Q : VK} (h1 : σ[1]? = some (some (.ref l))) (hσ : σ.length = 4) (h2 : H l = some (.lst (bs.map V.bl))) (hb : bs.length < 100)
    (q : ∀ H', (∀ b o, H b = some o → H' b = some o) → Q (.int (oneOf bs).sum) H') : tSumF K σ H Q := by
  refine ⟨_, h1, l, rfl, ⟨_, .inl (.inl h2)⟩, fun D hD => ?_⟩
  have up0 : ∀ b o, H b = some o → upd H D (.lst []) b = some o := fun b o e => by rw [upd_ne (ne_of_none e hD)]; exact e
  refine lc_list (xs := bs.map V.bl) (fun i H' => (∀ b o, H b = some o → H' b = some o) ∧ H' D = some (.lst ((oneOf (bs.take i)).map V.int))) ⟨up0, upd_same⟩ (fun i H' _ p => .inl (.inl (p.1 _ _ h2))) (fun i x H' hx ⟨e, hd⟩ => ?_) fun H' ⟨e, hd⟩ => ?_
  · rw [List.getElem?_map] at hx
    cases hbi : bs[i]? with
    | none => rw [hbi] at hx; cases hx
    | some b =>
      rw [hbi] at hx
      cases hx
      have hlen : 3 < (wipe σ [3]).length := by rw [wipe_length, hσ]; decide
      refine ⟨by show ((wipe σ [3]).set 3 (some (.bl b))).set 3 none = wipe σ [3]; rw [List.set_set]; show (σ.set 3 none).set 3 none = σ.set 3 none; rw [List.set_set], ?_⟩
      unfold tYes
      dsimp only
      rw [if_pos rfl]
      refine ⟨_, List.getElem?_set_self hlen, .inr ⟨b, rfl, _, hd, ?_, ?_⟩⟩
      · rw [List.length_map]; unfold oneOf; rw [List.length_map, List.length_take]
        exact Nat.lt_of_le_of_lt (Nat.min_le_right _ _) (Nat.lt_trans hb (by decide))
      · refine ⟨fun b' o eb => by rw [upd_ne (fun z => by rw [z, hD] at eb; cases eb)]; exact e _ _ eb, ?_⟩
        rw [upd_same]
        have et : bs.take (i + 1) = bs.take i ++ [b] := by rw [List.take_succ, hbi]; rfl
        rw [et]
        unfold oneOf
        simp
  · refine ⟨D, oneOf bs, rfl, .inl (.inl ?_), q H' e⟩
    rw [List.length_map, List.take_length] at hd
    exact hd
end Mi
set_option Elab.async false
set_option linter.all false
set_option maxRecDepth 100000
set_option maxHeartbeats 4000000
namespace Mi
open PySem L2
def K1 : List Str := C1 ++ C2 ++ C3
def K2 : List Str := C4 ++ C5
def flg (n : Str) (l : List Str) : List Bool := l.map fun c => decide (n = c)
def idxOf (n : Str) : Nat := CL.findIdx fun c => decide (n = c)
theorem cl_all : CL.all (fun n => decide ((oneOf (flg n CL)).sum = 1) && decide (CL[idxOf n]? = some n) && decide ((flg n CL)[idxOf n]? = some true) && (List.range (idxOf n)).all fun m => decide ((flg n CL)[m]? = some false)) = true := by decide +kernel
theorem cl_of {n : Str} (h : n ∈ CL) : (oneOf (flg n CL)).sum = 1 ∧ CL[idxOf n]? = some n ∧ (flg n CL)[idxOf n]? = some true ∧ ∀ m, m < idxOf n → (flg n CL)[m]? = some false := by
  have q := List.all_eq_true.mp cl_all n h
  simp only [Bool.and_eq_true, decide_eq_true_eq, List.all_eq_true, List.mem_range] at q
  exact ⟨q.1.1.1, q.1.1.2, q.1.2, q.2⟩
theorem seqL {σ : St} {H : Hp} {zs : List V} {t : TA} {u : TS} {D : Ends} {i : Nat} (hl : zs.length ≤ sizeLine) (ht : ∀ {Q : List V → Hp → Prop}, Q zs H → t σ H Q)
    (q : ∀ p H', (∀ b o, H b = some o → H' b = some o) → H' p = some (.lst zs) → u D (σ.set i (some (.ref p))) H') : tSeq (tAsg (tLst t) (gName i)) u D σ H :=
  ht ⟨hl, fun p hp => q p _ (fun b o e => by rw [upd_ne (ne_of_none e hp)]; exact e) upd_same⟩
theorem seqC {σ : St} {H : Hp} {i k : Nat} {l : Addr} {xs zs : List V} {t : TA} {u : TS} {D : Ends} (h1 : σ[i]? = some (some (.ref l))) (h2 : H l = some (.lst xs)) (hl : xs.length + zs.length ≤ sizeLine) (ht : ∀ {Q : List V → Hp → Prop}, Q zs H → t σ H Q)
    (q : ∀ p H', (∀ b o, H b = some o → H' b = some o) → H' p = some (.lst (xs ++ zs)) → u D (σ.set k (some (.ref p))) H') : tSeq (tAsg (tOp rCatL (tVar i) (tLst t)) (gName k)) u D σ H := catL_reads h1 h2 hl ht q
abbrev NT : List Str := ["_law_e", "_law_flags", "_law_kinds", "_law_flag"]
theorem term_reads {K : Fg} {a : Addr} {n : Str} {H : Hp} {Q : VK} (hn : n ∈ CL)
    (q : ∀ q o H', (∀ b u, H b = some u → H' b = some u) → H q = none → H' q = some (.frz o (.tup [.str "refused", .str n])) → o.dict = none → Q (.ref q) H') :
    tTerm K a true (flg n C1) (flg n C2) (flg n C3) (flg n C4) (flg n C5) K1 K2 { nx := fun _ H' => Q .non H', rt := Q } (L2.start NT [.ref a]) H := by
  obtain ⟨f1, f2, f3, f4⟩ := cl_of hn
  unfold tTerm
  have sz : ∀ k : Nat, k ≤ 100 → k ≤ sizeLine := fun k h => Nat.le_trans h (by decide)
  have fl : ∀ l, (flg n l).length = l.length := fun l => by unfold flg; simp
  refine seqL (zs := (flg n C1).map V.bl) (sz _ (by simp [fl, C1])) (fun q => isL_reads rfl q) fun p1 H1 e1 h1 => ?_
  refine seqC (xs := (flg n C1).map V.bl) (zs := (flg n C2).map V.bl) rfl h1 (sz _ (by simp [fl, C1, C2])) (fun q => isL_reads rfl q) fun p2 H2 e2 h2 => ?_
  refine seqC (xs := (flg n C1).map V.bl ++ (flg n C2).map V.bl) (zs := (flg n C3).map V.bl) rfl h2 (sz _ (by simp [fl, C1, C2, C3])) (fun q => isL_reads rfl q) fun p3 H3 e3 h3 => ?_
  refine seqC (zs := (flg n C4).map V.bl) rfl h3 (sz _ (by simp [fl, C1, C2, C3, C4])) (fun q => isL_reads rfl q) fun p4 H4 e4 h4 => ?_
  refine seqC (zs := (flg n C5).map V.bl) rfl h4 (sz _ (by simp [fl, C1, C2, C3, C4, C5])) (fun q => isL_reads rfl q) fun p5 H5 e5 h5 => ?_
  have h5' : H5 p5 = some (.lst ((flg n CL).map V.bl)) := by
    rw [h5]
    simp [flg, CL]
  clear h1 h2 h3 h4 h5
  refine seqL (zs := K1.map V.str) (sz _ (by decide)) (fun q => strs_reads q) fun p6 H6 e6 h6 => ?_
  refine seqC (xs := K1.map V.str) (zs := K2.map V.str) rfl h6 (sz _ (by decide)) (fun q => strs_reads q) fun p7 H7 e7 h7 => ?_
  have h7' : H7 p7 = some (.lst (CL.map V.str)) := by
    rw [h7]
    rfl
  clear h6 h7
  show tSumF K _ _ _
  refine sumF_reads (bs := flg n CL) rfl rfl (e7 _ _ (e6 _ _ h5')) (by rw [fl]; decide) fun H8 e8 => ?_
  refine ⟨rfl, _, rfl, ?_⟩
  rw [f1]
  show (if (!decide (V.int 1 = V.int 1)) = true then _ else _)
  rw [if_neg (by simp)]
  refine ⟨rfl, true, rfl, ?_⟩
  show (if (!true) = true then _ else _)
  rw [if_neg (by simp)]
  unfold tNext
  have h7b := e8 _ _ h7'
  have h5b := e8 _ _ (e7 _ _ (e6 _ _ h5'))
  refine ⟨_, rfl, _, rfl, .inl ⟨rfl, _, .inl (.inl h5b)⟩, p5, (flg n CL).map V.bl, .bl true, idxOf n, .bl true, rfl, rfl, .inl (.inl h5b), rfl, ?_, ?_, rfl, ?_, ?_⟩
  · rw [List.all_eq_true]
    intro v hv
    obtain ⟨b, _, rfl⟩ := List.mem_map.mp hv
    rfl
  · rw [List.getElem?_map, f3]; rfl
  · intro m z' hm hz
    rw [List.getElem?_map, f4 m hm] at hz
    cases hz
    rfl
  refine ⟨p7, CL.map V.str, _, .str n, rfl, rfl, .inl (.inl h7b), atI_nat (by rw [List.getElem?_map, f2]; rfl), ?_⟩
  refine ⟨by show (2 : Nat) ≤ sizeLine; decide, fun p o hp ho => ?_⟩
  have ee : ∀ b u, H b = some u → H8 b = some u := fun b u e => e8 _ _ (e7 _ _ (e6 _ _ (e5 _ _ (e4 _ _ (e3 _ _ (e2 _ _ (e1 _ _ e)))))))
  refine q p o _ (fun b u e => ?_) ?_ upd_same ho
  · rw [upd_ne (ne_of_none (ee _ _ e) hp)]; exact ee _ _ e
  · cases z : H p with
    | none => rfl
    | some u => rw [ee _ _ z] at hp; cases hp
end Mi
set_option Elab.async false
set_option linter.all false
set_option maxRecDepth 100000
set_option maxHeartbeats 4000000
namespace Mi
open PySem L2
structure ExF (K : Fg) (x : Str) : Prop where
  c : ExcC K (He.ga K x)
  k : ∀ y ∈ CL, PySem.W.kitOne K (.ref (He.ga K x)) (.ref (He.ga K y)) = some (decide (x = y))
  v : PySem.W.kitOne K (.ref (He.ga K x)) (.type "ValueError") = some true
  t : PySem.W.exmOne K (.ref (He.ga K x)) (.ref (He.ga K "TooMuch")) = some false
  e : PySem.W.exmOne K (.ref (He.ga K x)) (.ref (He.ga K "CastError")) = some true
  m : x ∈ CL
  o : (He.Fa.exc x).ok K = true
theorem excB_ok {K : Fg} {x : Str} (h : excB K x = true) : ExF K x := by
  unfold excB at h
  simp only [Bool.and_eq_true, decO, decide_eq_true_eq, List.all_eq_true] at h
  obtain ⟨h1, h2, h3, h4, h5, h6, h7, h8, h9, h10, h11, h12, h13, h14⟩ := h
  exact ⟨⟨h1, h2, h3, h4, h5, h6, h7, h8⟩, h9, h10, h11, h12, h13, h14⟩
structure ToldF (K : Fg) (mg : Str → Option Value) (ns : List Str) : Prop where
  x : ∀ x ∈ ns, ExF K x
  g : ∀ x ∈ CL, mg x = some (.ref (He.ga K x))
  ce : mg "CastError" = some (.ref (He.ga K "CastError"))
theorem toldF_of {K : Fg} {h : Heap} {mg : Str → Option Value} {ns : List Str} (X : K.In h) (G : h.Ns mainGlobals mg) (b : toldB ns K = true) : ToldF K mg ns := by
  unfold toldB at b
  simp only [Bool.and_eq_true, List.all_eq_true] at b
  exact ⟨fun x hx => excB_ok (b.1 x hx), fun x hx => He.glo_ok X G (b.2.1 x hx), He.glo_ok X G b.2.2⟩
def MkrF (K : Fg) (mg : Str → Option Value) (base : Heap) (T : Tb) (fd : FuncData) (q : Str) : Prop := ∃ c P, fd.code = .ref c ∧ LamX.TabB base mg c P ∧ (P, q) ∈ T.tabs ∧ ∀ p ∈ T.tabs, p.1 = P → p.2 = q
section
variable {X : Cx}
theorem pe_isV {p : Addr × Obj} {D : Addr} {b : Bool} {p1 p2 p3 pos : Pos} (E : ExcC X.K D) (hp : p ∈ X.pn) (hz : L2N.Zn (.ref D) none p.2) (hf : ∃ vs, p.2.data = .fields vs) (hk : PySem.W.kitOne X.K (.ref D) (.type "ValueError") = some b) (hg : Gl X "isinstance") (hm : X.mg "isinstance" = none) (hgC : Gl X "ValueError") (hmC : X.mg "ValueError" = none) (hN : X.N[0]? = some ("_law_e" : Str)) (hv : Vis X.env.scope "_law_e")
    (he : starEach [.Name "_law_e" p1, .Name "ValueError" p2] X.env = (false, eval (.Name "_law_e" p1) X.env) :: starEach [.Name "ValueError" p2] X.env := by rfl) (he2 : starEach [.Name "ValueError" p2] X.env = (false, eval (.Name "ValueError" p2) X.env) :: starEach [] X.env := by rfl) (hpl : (backTo pos (starEach [.Name "ValueError" p2] X.env)).any (·.1) = false := by rfl) :
    PE X (.Call (.Name "isinstance" p3) [.Name "_law_e" p1, .Name "ValueError" p2] [] pos) (tIsI p.1 b) := by
  refine pe_mono (pe_callB (call_isP E hp hz hf) hg hm bt_isinstance (pa_cons (pe_var (i := 0) hN hv) (pa_cons (pe_bltn (v := V.ty "ValueError") (u := .type "ValueError") hgC hmC (by decide +kernel) rfl) pa_nil he2) he) (by decide) (by decide) he hpl) fun σ H Q ⟨h1, h2⟩ => ?_
  exact ⟨_, h1, .ty "ValueError", .type "ValueError", b, rfl, fun u r => r, hk, h2⟩
variable {T : Tb} {c : Gh} {W : WX}
/-- _law_told(lambda: body) -/
theorem me_told {ns : List Str} {st stt : Stmt} {g f : Addr} {fdg fdt : FuncData} {k : Nat} {params : Arguments} {body : Expr} {scope : Scope} {fm : MM D} {p lpos pos : Pos} {su1 : List Stmt} {b1 : Stmt} {p1 p2 p3 p4 p5 p6 p7 p8 p9 p10 p11 p12 : Pos}
    (U : ToldF X.K X.mg ns) (Fg : Fun X.K "_law_told" "_law_told" st g fdg) (hmg : X.mg "_law_told" = some (.ref g)) (hbg : Binds X.K fdg ["_law_deed"] []) (Sg : FnScope ["_law_deed", "_law_e"] ["_law_deed"] (defScope st))
    (hbody0 : defBody st = [.Try [.Return (some (.Call (.Name "_law_deed" p1) [] [] p2)) p3] [.ExceptHandler (some (.Name "TooMuch" p4)) (some "_law_e") (b1 :: su1) p5, .ExceptHandler (some (.Name "CastError" p6)) (some "_law_e") [.Return (some (.Call (.Name "_law_term" p7) [.Name "_law_e" p8] [] p9)) p10] p11] [] [] p12])
    (hl1 : (defScope st).names.lookup ("TooMuch" : Str) = some .globalImplicit) (hl2 : (defScope st).names.lookup ("CastError" : Str) = some .globalImplicit) (hl3 : (defScope st).names.lookup ("_law_term" : Str) = some .globalImplicit) (hl4 : (defScope st).names.lookup ("_law_e" : Str) = some .local)
    (hl5 : Vis (defScope st) "_law_deed")
    (Ft : Fun X.K "_law_term" "_law_term" stt f fdt) (hmt : X.mg "_law_term" = some (.ref f)) (hbt : Binds X.K fdt ["_law_e"] []) (Fk : TermOk X.prog X.w X.K X.mg X.base 1 f fdt (KdOf X.K ns))
    (M : MkrF X.K X.mg X.base T fdM (X.env.qual ++ "<lambda>")) (hcd : X.env.code = fdM.code) (hr : Room (k + 2) X.A) (hgl : Gl X "_law_told") (L : LamX.lamSB X.env.scope scope = true) (hdef : defaultsOf params X.env = ([], []))
    (hbind : ∀ (q : Str) (cl : List (Str × Addr)) (pm cv ctv : Value), bindArgs (PySem.W.kla_fn "<lambda>" q params body scope cl pm cv ctv) ⟨[], []⟩ = pure [])
    (hbody : ∀ (A : Around) (outer : List Env) (s : Shared) (H : Hp) (E : XK) (f c' : Addr), Room k (A.deeper (LamX.lamEnv X scope s.heap.objs.size f c')) → PE (lamN X A outer s H E scope f c') body (mE X.K T c (fun cls d _ H => E cls d H) fm)) :
    PE X (.Call (.Name "_law_told" p) [.Lambda params body scope lpos] [] pos) (mE X.K T c W (toldE ns fm)) := by
  obtain ⟨oc, od, kV, doc, pm, an, cdv, ct, osl, rfl, lk, hcd'⟩ := Fg.ex
  obtain ⟨cM, PM, e1, TB, mT, hu⟩ := M
  rw [hbody0] at lk hbg
  refine pe_mono (pe_lamcallN (T := T.tabs) (k := k) (Ng := ["_law_deed", "_law_e"]) (a := "_law_deed") (t := fun E => mE X.K T c (fun cls d _ H => E cls d H) fm) hgl hmg Fg.kp lk hcd' hbg Sg rfl hl5 (told_givesN (Kd := KdOf X.K ns) Fk (by omega) hl1 hl2 hl3 hl4 (U.g "TooMuch" (by decide +kernel)) U.ce hmt Ft.kp hbt) TB (by rw [hcd, e1]) mT hu hr (LamX.lamS_by L) hdef hbind hbody) (told_to fun x hx => ⟨(U.x x hx).t, (U.x x hx).e⟩)
end
end Mi
set_option Elab.async false
set_option linter.all false
set_option maxRecDepth 100000
set_option maxHeartbeats 4000000
namespace Mi
open PySem L2
def qlam (x : Str) : Str := (x ++ ".<locals>.") ++ "<lambda>"
theorem code_of {K : Fg} {x : Str} {st : Stmt} {fd : FuncData} (F : Fun K x x st (He.fAd K (x, none)) fd) : fd.code = .ref (He.cT K (x, none)).1 := by
  obtain ⟨oc, od, kV, doc, pm, an, cdv, ct, osl, rfl, lk, hcd⟩ := F.ex
  obtain ⟨c, e⟩ := He.codeIn_ref hcd
  subst e
  exact congrArg Value.ref (He.codeOf_eq lk rfl).symm
def td0 : Addr → List (V × V) → List (D × D) → HO → Prop := fun _ _ _ _ => False
def Ts (td : Addr → List (V × V) → List (D × D) → HO → Prop) (tf : List He.Defn) (K : Fg) : Tb := ⟨tf.map fun p => ((He.cT K p).2, qlam p.1), [], td⟩
theorem mkr_of {K : Fg} {mg : Str → Option Value} {base : Heap} {tf : List He.Defn} {x : Str} {st : Stmt} {fd : FuncData} (F : Fun K x x st (He.fAd K (x, none)) fd) (hm : (x, none) ∈ tf) (ap : apartB tf K = true) (TB : ∀ p ∈ tf, LamX.TabB base mg (He.cT K p).1 (He.cT K p).2) : MkrF K mg base (Ts td tf K) fd (qlam x) := by
  refine ⟨_, _, code_of F, TB _ hm, List.mem_map.mpr ⟨_, hm, rfl⟩, fun p hp e => ?_⟩
  obtain ⟨p', hp', rfl⟩ := List.mem_map.mp hp
  have q := List.all_eq_true.mp (List.all_eq_true.mp ap _ hp') _ hm
  rw [decide_eq_true_eq] at q
  rw [q e]
theorem tabs_of {K : Fg} {tf : List He.Defn} {H : Hp} (h : ∀ p ∈ tf.map (He.cT K), H p.2 = some (.tbl #[])) : TabsC (Ts td tf K) H := by
  refine ⟨fun p hp => ?_, fun p hp => nomatch hp⟩
  obtain ⟨p', hp', rfl⟩ := List.mem_map.mp hp
  exact LamX.TabS.nil (h _ (List.mem_map.mpr ⟨p', hp', rfl⟩))
section
variable {K : Fg} {T : Tb} {c : Gh} {W : WX} {σ : St} {ρ : MSt} {G G1 : Wd} {H : Hp} {Q : VK}
theorem pO.le {o : Out S} (l : Le G G1) (h : pO K T c W σ G Q o) : pO K T c W σ G1 Q o := by
  cases o with
  | ok a ρ' => exact fun b G' H' l' => h b G' H' (l.trans l')
  | exn e ρ' => exact fun cls dx G' H' l' => h cls dx G' H' (l.trans l')
  | stuck => exact h
theorem pO_bind {α β : Type} {rel : Wd → β → α → Prop} {R : β → Hp → Prop} {f : MM α} {g : α → MM S} (j : J K T c G H σ ρ) (p : pO K T c W σ G Q (MM.bind f g ρ))
    (k : ∀ a b ρ1 G1 H1, Le G G1 → J K T c G1 H1 σ ρ1 → rel G1 b a → pO K T c W σ G1 Q (g a ρ1) → R b H1) : mX K T c W rel f σ H R := by
  refine ⟨G, ρ, j, ?_⟩
  unfold MM.bind at p
  cases e : f ρ with
  | ok a ρ1 =>
    rw [e] at p
    exact fun b G1 H1 l j1 r => k a b ρ1 G1 H1 l j1 r (pO.le l p)
  | exn x ρ1 =>
    rw [e] at p
    exact p
  | stuck =>
    rw [e] at p
    exact p
/-- a new list, owned -/
theorem pO.new {xs : List V} {ds : List D} {q : Addr} (p : pO K T c W σ G Q (.ok (.ol ds) ρ)) (j : J K T c G H σ ρ) (hq : H q = none) (r : DqAll K G xs ds) : Q (.ref q) (upd H q (.lst xs)) :=
  p q G _ (Le.refl G) (j.aside hq) rfl ⟨q, xs, rfl, j.fresh hq, upd_same, r⟩ (j.H0none hq) ⟨j.notOwn hq, j.freshM hq⟩
end
section
variable {X : Cx} {T : Tb} {c : Gh} {W : WX} {a b e : Expr} {f f1 f2 : MM D} {pos p : Pos}
def mkOL (xs : List D) : Res S := if small xs.length = true then .ok (.ol xs) else .stuck
end
end Mi
set_option Elab.async false
set_option linter.all false
set_option maxRecDepth 100000
set_option maxHeartbeats 4000000
set_option Elab.async false
set_option linter.all false
set_option maxRecDepth 100000
set_option maxHeartbeats 4000000
namespace Mi
open PySem L2
section
variable {P : Program} {w : World} {κ : Type} [DecidableEq κ]
/-- the set at a: S its members, n their number; its table rises -/
def SetG (knd : PySem.KeyKind P w κ) (kf : Value → κ) (h : Heap) (a : Addr) (S : κ → Bool) (n : Nat) : Prop :=
  ∃ ob rows ep tb, h.get? a = some ob ∧ ob.ExactSet ∧ ob.data = .set rows ep tb ∧ ElemsOf knd rows.toList ∧ (rows.toList.map fun e => kf e.2).Nodup ∧ (∀ k, S k = true ↔ k ∈ rows.toList.map fun e => kf e.2) ∧
    rows.size < scanBound ∧ tb.fits rows.size = true ∧ rows.size = n ∧ Ris tb.place.toList ∧ (w.params.followText "set-order" = true ∨ tb.led = true)
theorem SetG.at {knd : PySem.KeyKind P w κ} {kf : Value → κ} {h h' : Heap} {a : Addr} {S : κ → Bool} {n : Nat} (R : SetG knd kf h a S n) (k : ∀ o, h.get? a = some o → h'.get? a = some o) : SetG knd kf h' a S n := by
  obtain ⟨ob, rows, ep, tb, h0, more⟩ := R
  exact ⟨ob, rows, ep, tb, k _ h0, more⟩
end
end Mi
set_option Elab.async false
set_option linter.all false
set_option maxRecDepth 100000
set_option maxHeartbeats 4000000
set_option Elab.async false
set_option linter.all false
set_option maxRecDepth 100000
set_option maxHeartbeats 4000000
namespace Mi
open PySem L2
section
variable {ρ : MSt} {f f1 f2 f3 : MM D} {g g' : D → D → Res D} {t t1 t2 : MM Bool} {s s1 s2 : MM Fl} {i : Nat} {x y z d : D} {b b' : Bool} {p : Prop} [Decidable p] {e : Exn} {ga : MM (List D)} {fm : List D → Res D}
@[simp] theorem op2K_exn : op2K g f2 (.exn e ρ) = .exn e ρ := rfl
@[simp] theorem op2L_exn : op2L g x (.exn e ρ) = .exn e ρ := rfl
@[simp] theorem tstK_exn : tstK (.exn e ρ) = .exn e ρ := rfl
@[simp] theorem andTK_exn : andTK t2 (.exn e ρ) = .exn e ρ := rfl
@[simp] theorem orTK_exn : orTK t2 (.exn e ρ) = .exn e ρ := rfl
@[simp] theorem notTK_exn : notTK (.exn e ρ) = .exn e ρ := rfl
@[simp] theorem andK_exn : andK f2 (.exn e ρ) = .exn e ρ := rfl
@[simp] theorem orK_exn : orK f2 (.exn e ρ) = .exn e ρ := rfl
@[simp] theorem notK_exn : notK (.exn e ρ) = .exn e ρ := rfl
@[simp] theorem chainA_exn : chainA g g' f2 f3 (.exn e ρ) = .exn e ρ := rfl
@[simp] theorem chainB_exn : chainB g g' f3 x (.exn e ρ) = .exn e ρ := rfl
@[simp] theorem ifEK_exn : ifEK f1 f2 (.exn e ρ) = .exn e ρ := rfl
@[simp] theorem consK_exn : consK ga (.exn e ρ) = .exn e ρ := rfl
@[simp] theorem consJ_exn : consJ x (.exn e ρ) = .exn e ρ := rfl
@[simp] theorem callK_exn : callK fm (.exn e ρ) = .exn e ρ := rfl
@[simp] theorem ifSK_exn : ifSK s1 s2 (.exn e ρ) = .exn e ρ := rfl
@[simp] theorem iterK_exn : iterK (.exn e ρ) = .exn e ρ := rfl
@[simp] theorem raiseS_ap {c : Str} : raiseS c ρ = .exn ⟨c, none⟩ ρ := rfl
variable {ns : List Str}
@[simp] theorem toldE_ap : toldE ns f ρ = toldK ns (f ρ) := rfl
@[simp] theorem toldK_ok : toldK ns (.ok x ρ) = .ok x ρ := rfl
theorem toldK_exn {c : Str} : toldK ns (.exn ⟨c, none⟩ ρ) = if c ∈ ns then .ok (.tuple [.str "refused", .str c]) ρ else .stuck := by
  unfold toldK toldX
  dsimp only
  split <;> rfl
@[simp] theorem toldK_ite {o o' : Out D} : toldK ns (if p then o else o') = if p then toldK ns o else toldK ns o' := by split <;> rfl
@[simp] theorem mkOL_ap {xs : List D} : mkOL xs = if small xs.length = true then .ok (.ol xs) else .stuck := rfl
end
def negK (o : Out D) : Out D := Out.bind o fun x => match x with
  | .int i => MM.pure (.int (-i))
  | _ => stuck
@[simp] theorem negE_ap {f : MM D} {ρ : MSt} : negE f ρ = negK (f ρ) := rfl
@[simp] theorem negK_int {i : Int} {ρ : MSt} : negK (.ok (.int i) ρ) = .ok (.int (-i)) ρ := rfl
def get1K (f2 : MM D) (o : Out D) : Out D := Out.bind o fun x => match x with
  | .dict kvs => MM.bind f2 fun k => match keyOf k with
    | some _ => MM.pure ((valAt kvs k).getD .none)
    | none => stuck
  | _ => stuck
@[simp] theorem get1E_ap {f1 f2 : MM D} {ρ : MSt} : get1E f1 f2 ρ = get1K f2 (f1 ρ) := rfl
@[simp] theorem get1K_ok {f2 : MM D} {ρ : MSt} {kvs : List (D × D)} : get1K f2 (.ok (.dict kvs) ρ) = Out.bind (f2 ρ) fun k => match keyOf k with | some _ => MM.pure ((valAt kvs k).getD .none) | none => stuck := rfl
@[simp] theorem dMul_list {xs : List D} {k : Int} : dMul (.list xs) (.int k) = if -(2 ^ 63) ≤ k ∧ k < 2 ^ 63 ∧ xs.length * k.toNat ≤ sizeLine then .ok (.list (List.replicate k.toNat xs).flatten) else .stuck := rfl
theorem wp_seq {s1 s2 : MM Fl} {ρ : MSt} {P : Fl → MSt → Prop} (h : Wp (s1 ρ) fun fl ρ' => fl = .nx ∧ Wp (s2 ρ') P) : Wp (seqS s1 s2 ρ) P := by
  obtain ⟨fl, ρ', e, rfl, h⟩ := h
  show Wp (seqK s2 (s1 ρ)) P
  rw [e]
  exact h
@[simp] theorem wp_ok {α : Type} {a : α} {ρ : MSt} {P : α → MSt → Prop} : Wp (.ok a ρ) P ↔ P a ρ := by
  constructor
  · rintro ⟨_, _, e, p⟩
    cases e
    exact p
  · exact fun p => ⟨a, ρ, rfl, p⟩
/-- a step whose end is told by an equation -/
theorem wp_step {s1 s2 : MM Fl} {ρ ρ' : MSt} {P : Fl → MSt → Prop} (h : s1 ρ = .ok .nx ρ') (k : Wp (s2 ρ') P) : Wp (seqS s1 s2 ρ) P := wp_seq ⟨.nx, ρ', h, rfl, k⟩
theorem getE_wipe {os : List Nat} {ρ ρ' : MSt} (hw : wipeM ρ' os = wipeM ρ os) {i : Nat} (h : i ∉ os) : ρ'[i]? = ρ[i]? := by
  rw [← wipeM_out (ρ := ρ') h, ← wipeM_out (ρ := ρ) h, hw]
theorem restore_same {os : List Nat} {ρ ρ' : MSt} (hw : wipeM ρ' os = wipeM ρ os) (hs : ∀ i ∈ os, keepd ρ[i]? = (ρ[i]?).getD none) : restore os ρ ρ' = ρ := by
  unfold restore
  apply List.ext_getElem?
  intro i
  rw [List.getElem?_map]
  by_cases hi : i < ρ.length
  · rw [List.getElem?_range hi]
    show some (if i ∈ os then keepd ρ[i]? else (ρ'[i]?).getD none) = ρ[i]?
    rw [List.getElem?_eq_getElem hi]
    by_cases m : i ∈ os
    · rw [if_pos m]
      have := hs i m
      rw [List.getElem?_eq_getElem hi] at this
      rw [this]; rfl
    · rw [if_neg m, getE_wipe hw m, List.getElem?_eq_getElem hi]
      rfl
  · rw [List.getElem?_eq_none (l := ρ) (by omega), List.getElem?_eq_none (by simpa using hi)]
    rfl
section
variable {α : Type} {os : List Nat} {gt : D → MSt → Option MSt} {t : MM Bool} {el : MM D} {enc f : α → D} {p : α → Bool} {ρ : MSt}
theorem compD_filT : ∀ {l : List α} {acc : List D} {ρ' : MSt}, acc.length + l.length < 16777216 → wipeM ρ' os = wipeM ρ os →
    (∀ a ∈ l, ∃ ρ1, gt (enc a) (wipeM ρ os) = some ρ1 ∧ wipeM ρ1 os = wipeM ρ os ∧ t ρ1 = .ok (p a) ρ1 ∧ (p a = true → el ρ1 = .ok (f a) ρ1)) →
    ∃ ρ2, compD os gt t el (l.map enc) acc ρ' = .ok (acc ++ (l.filter p).map f) ρ2 ∧ wipeM ρ2 os = wipeM ρ os
  | [], acc, ρ', _, hw, _ => ⟨ρ', by simp, hw⟩
  | a :: l, acc, ρ', hl, hw, h => by
    obtain ⟨ρ1, h1, h2, h3, h4⟩ := h a List.mem_cons_self
    have hl1 : acc.length < 16777216 := by simp at hl; omega
    rw [List.map_cons, compD_cons, hw, h1, compG_some, h3, compT_ok]
    cases hp : p a with
    | true =>
      obtain ⟨ρ2, e, w⟩ := compD_filT (l := l) (acc := acc ++ [f a]) (ρ' := ρ1) (by simp at hl ⊢; omega) h2 fun b m => h b (List.mem_cons_of_mem _ m)
      refine ⟨ρ2, ?_, w⟩
      rw [if_pos rfl, h4 hp, compE_ok, if_pos (by rw [size_eq]; exact hl1), e, List.filter_cons_of_pos hp]
      simp
    | false =>
      obtain ⟨ρ2, e, w⟩ := compD_filT (l := l) (acc := acc) (ρ' := ρ1) (by simp at hl ⊢; omega) h2 fun b m => h b (List.mem_cons_of_mem _ m)
      refine ⟨ρ2, ?_, w⟩
      rw [if_neg (by simp), e, List.filter_cons_of_neg (by simp [hp])]
theorem compL_filT {l : List α} (hl : l.length < 16777216) (hs : ∀ i ∈ os, keepd ρ[i]? = (ρ[i]?).getD none)
    (h : ∀ a ∈ l, ∃ ρ1, gt (enc a) (wipeM ρ os) = some ρ1 ∧ wipeM ρ1 os = wipeM ρ os ∧ t ρ1 = .ok (p a) ρ1 ∧ (p a = true → el ρ1 = .ok (f a) ρ1)) :
    compL os gt t el (l.map enc) ρ = .ok (.list ((l.filter p).map f)) ρ := by
  obtain ⟨ρ2, e, w⟩ := compD_filT (acc := []) (ρ' := ρ) (by simpa using hl) rfl h
  rw [compL_ap, e, compLK_ok, restore_same w hs]
  rfl
theorem compL_mapT {l : List α} (hl : l.length < 16777216) (hs : ∀ i ∈ os, keepd ρ[i]? = (ρ[i]?).getD none)
    (h : ∀ a ∈ l, ∃ ρ1, gt (enc a) (wipeM ρ os) = some ρ1 ∧ wipeM ρ1 os = wipeM ρ os ∧ el ρ1 = .ok (f a) ρ1) :
    compL os gt (MM.pure true) el (l.map enc) ρ = .ok (.list (l.map f)) ρ := by
  have e := compL_filT (os := os) (gt := gt) (t := MM.pure true) (el := el) (enc := enc) (f := f) (p := fun _ => true) (ρ := ρ) hl hs fun a m => by
    obtain ⟨ρ1, h1, h2, h3⟩ := h a m
    exact ⟨ρ1, h1, h2, rfl, fun _ => h3⟩
  rw [List.filter_eq_self.mpr (fun _ _ => rfl)] at e
  exact e
end
theorem toBools_map {α : Type} (f : α → Bool) : ∀ l : List α, toBools (l.map fun a => .bool (f a)) = some (l.map f)
  | [] => rfl
  | a :: l => by rw [List.map_cons, toBools_cons, toBools_map f l]; rfl
theorem toInts_map {α : Type} (f : α → Int) : ∀ l : List α, toInts (l.map fun a => .int (f a)) = some (l.map f)
  | [] => rfl
  | a :: l => by rw [List.map_cons, toInts_cons, toInts_map f l]; rfl
theorem dAll_map {α : Type} (f : α → Bool) (l : List α) : dAll [.list (l.map fun a => .bool (f a))] = .ok (.bool (l.all f)) := by
  rw [dAll_list, toBools_map]
  dsimp only
  rw [List.all_map]
  rfl
theorem dSum_map {α : Type} (f : α → Int) (l : List α) : dSum [.list (l.map fun a => .int (f a))] = .ok (.int (l.map f).sum) := by
  rw [dSum_list, toInts_map]
end Mi
set_option Elab.async false
set_option linter.all false
set_option maxRecDepth 100000
set_option maxHeartbeats 4000000
namespace Mi
open PySem L2
structure Flt (n : Nat) (d : D) : Prop where
  nd : noDict d = true
  ly : d.canLay0 = true
  dp : d.depth ≤ n
theorem Flt.ok {n : Nat} {d : D} (h : Flt n d) (hn : n ≤ 64 := by decide) : eqOk d = true := by
  rw [eqOk_eq, h.nd, h.ly, decide_eq_true (Nat.le_trans h.dp hn)]
  rfl
theorem Flt.up {n m : Nat} {d : D} (h : Flt n d) (hn : n ≤ m := by decide) : Flt m d := ⟨h.nd, h.ly, Nat.le_trans h.dp hn⟩
theorem flt_int (i : Int) : Flt 0 (.int i) := ⟨rfl, rfl, by simp [D.depth, D.py, PyData.depth]⟩
theorem flt_str {u : Str} (h : PyData.strOk u = true) : Flt 0 (.str u) := ⟨rfl, by simp [D.canLay0, D.py, PyData.canLay0, h], by simp [D.depth, D.py, PyData.depth]⟩
theorem flt_all {n : Nat} : ∀ {xs : List D}, (∀ x ∈ xs, Flt n x) → noDicts xs = true ∧ D.canLayAll0 xs = true ∧ D.depthAll xs ≤ n
  | [], _ => ⟨rfl, rfl, by simp [D.depthAll, pys, PyData.depthAll]⟩
  | x :: xs, h => by
    have h1 := h x List.mem_cons_self
    obtain ⟨a, b, c⟩ := flt_all (xs := xs) fun y m => h y (List.mem_cons_of_mem _ m)
    refine ⟨?_, ?_, ?_⟩
    · show (noDict x && noDicts xs) = true
      rw [h1.nd, a]; rfl
    · have h2 := h1.ly
      unfold D.canLayAll0 at b ⊢
      unfold D.canLay0 at h2
      rw [pys, PyData.canLayAll0, h2, b]; rfl
    · have := h1.dp
      unfold D.depthAll at c ⊢
      unfold D.depth at this
      rw [pys, PyData.depthAll]
      omega
theorem flt_tuple {n : Nat} {xs : List D} (h : ∀ x ∈ xs, Flt n x) : Flt (n + 1) (.tuple xs) := by
  obtain ⟨a, b, c⟩ := flt_all h
  exact ⟨a, by unfold D.canLay0; rw [D.py, PyData.canLay0]; exact b, by unfold D.depthAll at c; unfold D.depth; rw [D.py, PyData.depth]; omega⟩
theorem flt_list {n : Nat} {xs : List D} (h : ∀ x ∈ xs, Flt n x) : Flt (n + 1) (.list xs) := by
  obtain ⟨a, b, c⟩ := flt_all h
  exact ⟨a, by unfold D.canLay0; rw [D.py, PyData.canLay0]; exact b, by unfold D.depthAll at c; unfold D.depth; rw [D.py, PyData.depth]; omega⟩
theorem eqv_self {d : D} (h : eqOk d = true) : D.eqv d d = true := by
  rw [eqOk_eq] at h
  simp only [Bool.and_eq_true] at h
  exact SeqAt.eqv_refl d.py h.2.1
theorem ne_self {d : D} (h : eqOk d = true) : dNe d d = .ok (.bool false) := by
  rw [dNe_ap, if_pos ⟨h, h⟩, eqv_self h]
  rfl
end Mi
set_option Elab.async false
set_option linter.all false
set_option maxRecDepth 100000
set_option maxHeartbeats 4000000
namespace Mi
open PySem L2
inductive F2 {α β : Type} (R : α → β → Prop) : List α → List β → Prop
  | nil : F2 R [] []
  | cons {a : α} {b : β} {as : List α} {bs : List β} : R a b → F2 R as bs → F2 R (a :: as) (b :: bs)
theorem F2.length {α β : Type} {R : α → β → Prop} : ∀ {as : List α} {bs : List β}, F2 R as bs → as.length = bs.length
  | _, _, .nil => rfl
  | _, _, .cons _ t => by simp [F2.length t]
theorem hasKey_strs (u : Str) : ∀ kvs : List (Str × D), hasKey (.str u) (kvs.map fun p => (.str p.1, p.2)) = decide (u ∈ kvs.map (·.1))
  | [] => rfl
  | p :: kvs => by
    rw [List.map_cons, hasKey_cons, hasKey_strs u kvs, eqv_str, List.map_cons]
    by_cases z : p.1 = u
    · simp [z]
    · have z2 : ¬ u = p.1 := fun q => z q.symm
      simp [z, z2]
theorem put_new {u : Str} {v : D} {kvs : List (Str × D)} (h : u ∉ kvs.map (·.1)) : putD (kvs.map fun p => (.str p.1, p.2)) (.str u) v = (kvs ++ [(u, v)]).map fun p => (.str p.1, p.2) := by
  rw [putD_ap, hasKey_strs, decide_eq_false h]
  simp
section
variable {α : Type} {os : List Nat} {gt : D → MSt → Option MSt} {ek ev : MM D} {enc : α → D} {kf : α → Str} {vf : α → D} {ρ : MSt}
theorem compK_mapT : ∀ {l : List α} {acc : List (Str × D)} {ρ' : MSt}, acc.length + l.length < 16777216 → (∀ a ∈ l, kf a ∉ acc.map (·.1)) → (l.map kf).Nodup → wipeM ρ' os = wipeM ρ os →
    (∀ a ∈ l, ∃ ρ1, gt (enc a) (wipeM ρ os) = some ρ1 ∧ wipeM ρ1 os = wipeM ρ os ∧ ek ρ1 = .ok (.str (kf a)) ρ1 ∧ ev ρ1 = .ok (vf a) ρ1) →
    ∃ ρ2, compK os gt (MM.pure true) ek ev (l.map enc) (acc.map fun p => (.str p.1, p.2)) ρ' = .ok ((acc ++ l.map fun a => (kf a, vf a)).map fun p => (.str p.1, p.2)) ρ2 ∧ wipeM ρ2 os = wipeM ρ os
  | [], acc, ρ', _, _, _, hw, _ => ⟨ρ', by simp, hw⟩
  | a :: l, acc, ρ', hl, hn, nd, hw, h => by
    obtain ⟨ρ1, h1, h2, h3, h4⟩ := h a List.mem_cons_self
    rw [List.map_cons, List.nodup_cons] at nd
    obtain ⟨ρ2, e, w⟩ := compK_mapT (l := l) (acc := acc ++ [(kf a, vf a)]) (ρ' := ρ1) (by simp at hl ⊢; omega) (fun b m => by
      rw [List.map_append, List.mem_append, not_or]
      refine ⟨hn b (List.mem_cons_of_mem _ m), fun z => nd.1 ?_⟩
      simp at z
      rw [← z]
      exact List.mem_map.mpr ⟨b, m, rfl⟩) nd.2 h2 fun b m => h b (List.mem_cons_of_mem _ m)
    refine ⟨ρ2, ?_, w⟩
    have l1 : (acc.map fun p : Str × D => ((.str p.1 : D), p.2)).length < 16777216 := by simp at hl ⊢; omega
    rw [List.map_cons, compK_cons, hw, h1, compKG_some, pure_ap, compKT_ok, if_pos rfl, h3, compKE_ok, h4, compKV_ok, if_pos ⟨by rw [size_eq]; exact l1, rfl⟩, put_new (hn a List.mem_cons_self), e]
    simp
theorem compO_mapT {l : List α} (hl : l.length < 16777216) (nd : (l.map kf).Nodup) (hs : ∀ i ∈ os, keepd ρ[i]? = (ρ[i]?).getD none)
    (h : ∀ a ∈ l, ∃ ρ1, gt (enc a) (wipeM ρ os) = some ρ1 ∧ wipeM ρ1 os = wipeM ρ os ∧ ek ρ1 = .ok (.str (kf a)) ρ1 ∧ ev ρ1 = .ok (vf a) ρ1) :
    compO os gt (MM.pure true) ek ev (l.map enc) ρ = .ok (.od (l.map fun a => (.str (kf a), vf a))) ρ := by
  obtain ⟨ρ2, e, w⟩ := compK_mapT (acc := []) (ρ' := ρ) (by simpa using hl) (by simp) nd rfl h
  have e' : compK os gt (MM.pure true) ek ev (l.map enc) [] ρ = _ := e
  rw [compO_ap, e', compOK_ok, restore_same w hs]
  simp
end
theorem cut_from {α : Type} (f : α → D) (l : List α) (k : Nat) (h : k ≤ l.length) : cutD (l.map f) (some (k : Int)) none = (l.drop k).map f := by
  unfold cutD
  rw [HT.sIx_nat, HT.sIx_none, List.length_map, Nat.min_eq_left h, List.map_drop]
  exact List.take_of_length_le (by simp)
theorem cut_to {α : Type} (f : α → D) (l : List α) (k : Nat) (h : k ≤ l.length) : cutD (l.map f) none (some (k : Int)) = (l.take k).map f := by
  unfold cutD
  rw [HT.sIx_nat, HT.sIx_none, List.length_map, Nat.min_eq_left h, List.map_take]
  simp
end Mi
set_option Elab.async false
set_option linter.all false
set_option maxRecDepth 100000
set_option maxHeartbeats 4000000
namespace Mi
open PySem L2
def stoOf (ρ : MSt) : Option (Bool × Sto) := match ρ[ρ.length - 1]? with
  | some (some (.sto b μ)) => some (b, μ)
  | _ => none
def setSto (ρ : MSt) (μ : Sto) : MSt := ρ.set (ρ.length - 1) (some (.sto true μ))
section
variable {K : Fg} {T : Tb} {c : Gh} {G G' : Wd} {H H' : Hp} {σ : St} {ρ : MSt} {μ μ' : Sto} {b : Bool}
theorem J.sto (j : J K T c G H σ ρ) (h : stoOf ρ = some (b, μ)) : ρ[σ.length]? = some (some (.sto b μ)) := by
  unfold stoOf at h
  have e : ρ.length - 1 = σ.length := by have := j.len; omega
  rw [e] at h
  split at h
  · rename_i b' μ' hq; cases h; exact hq
  · cases h
theorem J.stoOk (j : J K T c G H σ ρ) (h : stoOf ρ = some (b, μ)) : StoOk K T G H μ := (j.st b μ (j.sto h)).1
end
inductive SRes where
  | ok (d : D) (μ : Sto)
  | exn (e : Exn) (μ : Sto)
  | stuck
end Mi
set_option Elab.async false
set_option linter.all false
set_option maxRecDepth 100000
set_option maxHeartbeats 4000000
namespace Mi
open PySem L2
theorem DqF.get {K : Fg} {G : Wd} {x : Str} : ∀ {vs : List (Str × V)} {ds : List (Str × D)}, DqF K G vs ds → (vs.lookup x = none ∧ ds.lookup x = none) ∨ ∃ v d, vs.lookup x = some v ∧ ds.lookup x = some d ∧ Dq K G v d
  | _, _, .nil => .inl ⟨rfl, rfl⟩
  | _, _, .cons (x := y) (v := v) (d := d) h t => by
    rw [List.lookup_cons, List.lookup_cons]
    cases e : x == y with
    | true => exact .inr ⟨v, d, rfl, rfl, h⟩
    | false => exact DqF.get t
theorem DqF.length {K : Fg} {G : Wd} : ∀ {vs : List (Str × V)} {ds : List (Str × D)}, DqF K G vs ds → vs.length = ds.length
  | _, _, .nil => rfl
  | _, _, .cons _ t => by simp [DqF.length t]
def putFD (f : Str) (v : D) : List (Str × D) → List (Str × D)
  | [] => [(f, v)]
  | (g, x) :: r => if g = f then (g, v) :: r else (g, x) :: putFD f v r
theorem DqF.put {K : Fg} {G : Wd} {x : Str} {v : V} {d : D} (r : Dq K G v d) : ∀ {vs : List (Str × V)} {ds : List (Str × D)}, DqF K G vs ds → DqF K G (putF x v vs) (putFD x d ds)
  | _, _, .nil => .cons r .nil
  | _, _, .cons (x := y) h t => by
    unfold putF putFD
    split
    · exact .cons r t
    · exact .cons h (DqF.put r t)
/-- the cell at a place -/
def cellAt (ρ : MSt) (d : D) : Option (Nat × Cell) := match d, stoOf ρ with
  | .loc n, some (_, μ) => (μ[n]?).map fun u => (n, u)
  | _, _ => none
theorem J.cell {K : Fg} {T : Tb} {c : Gh} {G : Wd} {H : Hp} {σ : St} {ρ : MSt} {v : V} {d : D} {n : Nat} {u : Cell} (j : J K T c G H σ ρ) (r : Dq K G v d) (h : cellAt ρ d = some (n, u)) : ∃ a b μ, d = .loc n ∧ v = .ref a ∧ G.m[n]? = some a ∧ stoOf ρ = some (b, μ) ∧ μ[n]? = some u ∧ G a = none ∧ CellAt K T G H a u := by
  unfold cellAt at h
  split at h
  · rename_i k b μ hs
    cases e : μ[k]? with
    | none => rw [e] at h; cases h
    | some w =>
      rw [e] at h
      cases h
      cases r with
      | loc hm =>
        obtain ⟨g, ct⟩ := (j.stoOk hs).at_ _ _ _ hm e
        exact ⟨_, b, μ, rfl, rfl, hm, hs, e, g, ct⟩
  · cases h
section
variable {X : Cx} {T : Tb} {c : Gh} {W : WX} {a b e o value : Expr} {es : List Expr} {f f1 f2 fo fv : MM D} {g : MM (List D)} {pos pos' p apos : Pos}
/-- o.x, o of the class C -/
def attrK (C x : Str) (d : D) : MM D := fun ρ => match cellAt ρ d with
  | some (_, .obj C' fs) => if C' = C then (match fs.lookup x with
    | some v => .ok v ρ
    | none => .stuck) else .stuck
  | _ => .stuck
def attrE (C x : Str) (f : MM D) : MM D := MM.bind f (attrK C x)
/-- o.x = value -/
def fldK (C x : Str) (v d : D) : MM Fl := fun ρ => match stoOf ρ, cellAt ρ d with
  | some (true, μ), some (n, .obj C' fs) => if C' = C ∧ fs.length < 1000 then .ok .nx (setSto ρ (μ.set n (.obj C (putFD x v fs)))) else .stuck
  | _, _ => .stuck
def fldS (C x : Str) (fv fo : MM D) : MM Fl := MM.bind fv fun v => MM.bind fo (fldK C x v)
def callSK (fm : Sto → List D → SRes) (ds : List D) : MM D := fun ρ => match stoOf ρ with
  | some (true, μ) => match fm μ ds with
    | .ok d μ' => .ok d (setSto ρ μ')
    | .exn e μ' => .exn e (setSto ρ μ')
    | .stuck => .stuck
  | _ => .stuck
def callSE (fm : Sto → List D → SRes) (g : MM (List D)) : MM D := MM.bind g (callSK fm)
/-- is it an object of the class, without a field of the method's name -/
def isOb (ρ : MSt) (C m : Str) (d : D) : Bool := match cellAt ρ d with
  | some (_, .obj C' fs) => decide (C' = C) && (fs.lookup m).isNone
  | _ => false
def methE (C m : Str) (fm : Sto → List D → SRes) (fo : MM D) (g : MM (List D)) : MM D := MM.bind fo fun d ρ => if isOb ρ C m d = true then MM.bind g (fun ds => callSK fm (d :: ds)) ρ else .stuck
/-- C(..) -/
def makeK (C : Str) (fm : Sto → List D → SRes) (ds : List D) : MM D := fun ρ => match stoOf ρ with
  | some (true, μ) => match fm (μ ++ [.obj C []]) (.loc μ.length :: ds) with
    | .ok .none μ' => .ok (.loc μ.length) (setSto ρ μ')
    | _ => .stuck
  | _ => .stuck
def makeE (C : Str) (fm : Sto → List D → SRes) (g : MM (List D)) : MM D := MM.bind g (makeK C fm)
end
end Mi
set_option Elab.async false
set_option linter.all false
set_option maxRecDepth 100000
set_option maxHeartbeats 4000000
namespace Mi
open PySem L2
mutual
def noLoc : D → Bool
  | .loc _ => false
  | .exc _ => false
  | .fn _ => false
  | .list xs => noLocs xs
  | .tuple xs => noLocs xs
  | .dict kvs => noLocKV kvs
  | _ => true
def noLocs : List D → Bool
  | [] => true
  | x :: xs => noLoc x && noLocs xs
def noLocKV : List (D × D) → Bool
  | [] => true
  | (_, v) :: xs => noLoc v && noLocKV xs
end
mutual
theorem Dq.bare {K : Fg} {G G' : Wd} (s : Sub G G') : ∀ {v : V} {d : D}, Dq K G v d → noLoc d = true → Dq K G' v d
  | _, _, .non, _ => .non
  | _, _, .bl b, _ => .bl b
  | _, _, .int i, _ => .int i
  | _, _, .str x, _ => .str x
  | _, _, .lst h t, n => .lst (s.rd _ _ (fun _ _ z => by cases z) h) (DqAll.bare s t n)
  | _, _, .tup h t, n => .tup (h.sub s) (DqAll.bare s t n)
  | _, _, .dic h t, n => .dic (h.sub s) (DqKV.bare s t n)
  | _, _, .loc h, n => by cases n
  | _, _, .exc h, n => by cases n
  | _, _, .fn, n => by cases n
theorem DqAll.bare {K : Fg} {G G' : Wd} (s : Sub G G') : ∀ {vs : List V} {ds : List D}, DqAll K G vs ds → noLocs ds = true → DqAll K G' vs ds
  | _, _, .nil, _ => .nil
  | _, _, .cons h t, n => by
    obtain ⟨n1, n2⟩ := Bool.and_eq_true_iff.mp (show (noLoc _ && noLocs _) = true from n)
    exact .cons (Dq.bare s h n1) (DqAll.bare s t n2)
theorem DqKV.bare {K : Fg} {G G' : Wd} (s : Sub G G') : ∀ {kvs : List (Key × V)} {ds : List (D × D)}, DqKV K G kvs ds → noLocKV ds = true → DqKV K G' kvs ds
  | _, _, .nil, _ => .nil
  | _, _, .cons h t, n => by
    obtain ⟨n1, n2⟩ := Bool.and_eq_true_iff.mp (show (noLoc _ && noLocKV _) = true from n)
    exact .cons (Dq.bare s h n1) (DqKV.bare s t n2)
end
section
variable {P : Program} {w : World} {K : Fg} {mg : Str → Option Value} {base : Heap} {T : Tb}
/-- a def whose fuel is out -/
theorem fn_out {f : Addr} {fd : FuncData} {ps : List Str} {k : Nat} : FnOk P w K mg base (L2N.CX P w) k f fd ps (spF K T fun _ => .stuck) :=
  ⟨fun vs H Q E ⟨_, _, _, _, _, _, _, z⟩ => z.elim, fun A outer s H args us vs Q E _ _ _ _ ⟨_, _, _, _, _, _, _, z⟩ => z.elim⟩
end
mutual
def keyN : D → Option NestedKey
  | .none => some .none
  | .int i => some (.num i)
  | .str s => some (.text s)
  | .tuple xs => (keyNs xs).map .tup
  | _ => none
def keyNs : List D → Option (List NestedKey)
  | [] => some []
  | x :: xs => match keyN x, keyNs xs with
    | some k, some ks => some (k :: ks)
    | _, _ => none
end
def tkey (d : D) : Option NestedKey := match d with
  | .tuple xs => match keyN (.tuple xs) with
    | some k => if k.depth ≤ 8 then some k else none
    | none => none
  | _ => none
theorem tkey_ok {d : D} {k : NestedKey} (h : tkey d = some k) : keyN d = some k ∧ k.depth ≤ 8 ∧ ∃ xs, d = .tuple xs := by
  unfold tkey at h
  split at h
  · rename_i xs
    split at h
    · rename_i k' hk
      split at h
      · rename_i hd; cases h; exact ⟨hk, hd, xs, rfl⟩
      · cases h
    · cases h
  · cases h
theorem keyNs_cons {x : D} {xs : List D} {ks : List NestedKey} (h : keyNs (x :: xs) = some ks) : ∃ k l, keyN x = some k ∧ keyNs xs = some l ∧ ks = k :: l := by
  rw [keyNs] at h
  split at h
  · rename_i k l h1 h2; cases h; exact ⟨k, l, h1, h2, rfl⟩
  · cases h
theorem keyN_tup {xs : List D} {k : NestedKey} (h : keyN (.tuple xs) = some k) : ∃ ks, keyNs xs = some ks ∧ k = .tup ks := by
  rw [keyN] at h
  cases e : keyNs xs with
  | none => rw [e] at h; cases h
  | some ks => rw [e] at h; cases h; exact ⟨ks, rfl, rfl⟩
mutual
theorem keyN_py : ∀ (d : D) (k : NestedKey), keyN d = some k → d.py = k.data
  | .none, _, h => by cases h; rfl
  | .int i, _, h => by cases h; rfl
  | .str s, _, h => by cases h; rfl
  | .tuple xs, _, h => by
    obtain ⟨ks, h1, rfl⟩ := keyN_tup h
    show PyData.tuple (pys xs) = .tuple (NestedKey.datas ks)
    rw [keyNs_py xs ks h1]
  | .bool _, _, h => by cases h
  | .list _, _, h => by cases h
  | .dict _, _, h => by cases h
  | .loc _, _, h => by cases h
  | .exc _, _, h => by cases h
  | .fn _, _, h => by cases h
theorem keyNs_py : ∀ (xs : List D) (ks : List NestedKey), keyNs xs = some ks → pys xs = NestedKey.datas ks
  | [], _, h => by cases h; rfl
  | x :: xs, _, h => by
    obtain ⟨k, l, h1, h2, rfl⟩ := keyNs_cons h
    rw [pys, keyN_py x k h1, keyNs_py xs l h2]; rfl
end
mutual
theorem nk_eqv : ∀ a b : NestedKey, PyData.eqv a.data b.data = NestedKey.beq a b
  | .none, .none => rfl
  | .num a, .num b => by show PyData.eqv (.int a) (.int b) = _; rw [PyData.eqv, NestedKey.beq, Bool.beq_eq_decide_eq]
  | .text a, .text b => by show PyData.eqv (.str a) (.str b) = _; rw [PyData.eqv, NestedKey.beq, Bool.beq_eq_decide_eq]
  | .tup a, .tup b => by show PyData.eqv (.tuple _) (.tuple _) = _; rw [PyData.eqv, NestedKey.beq, nks_eqv]
  | .none, .num _ => rfl
  | .none, .text _ => rfl
  | .none, .tup _ => rfl
  | .num _, .none => rfl
  | .num _, .text _ => rfl
  | .num _, .tup _ => rfl
  | .text _, .none => rfl
  | .text _, .num _ => rfl
  | .text _, .tup _ => rfl
  | .tup _, .none => rfl
  | .tup _, .num _ => rfl
  | .tup _, .text _ => rfl
theorem nks_eqv : ∀ a b : List NestedKey, PyData.eqvAll (NestedKey.datas a) (NestedKey.datas b) = NestedKey.beqAll a b
  | [], [] => by rw [NestedKey.datas, PyData.eqvAll, NestedKey.beqAll]
  | [], b :: bs => by rw [NestedKey.datas, NestedKey.datas, PyData.eqvAll, NestedKey.beqAll]
  | a :: as, [] => by rw [NestedKey.datas, NestedKey.datas, PyData.eqvAll, NestedKey.beqAll]
  | a :: as, b :: bs => by rw [NestedKey.datas, NestedKey.datas, PyData.eqvAll, NestedKey.beqAll, nk_eqv, nks_eqv]
end
theorem keyN_eqv {d e : D} {a b : NestedKey} (h1 : keyN d = some a) (h2 : keyN e = some b) : D.eqv d e = decide (a = b) := by
  unfold D.eqv
  rw [keyN_py d a h1, keyN_py e b h2, nk_eqv, NestedKey.decide_eq]
end Mi
set_option Elab.async false
set_option linter.all false
set_option maxRecDepth 100000
set_option maxHeartbeats 4000000
namespace Mi
open PySem L2
inductive TdE : List (V × V) → List (D × D) → List (NestedKey × Addr × Value) → Prop
  | nil : TdE [] [] []
  | cons {a : Addr} {v : V} {k d : D} {n : NestedKey} {u : Value} {es : List (V × V)} {kvs : List (D × D)} {xs : List (NestedKey × Addr × Value)} : tkey k = some n → RelV v u → TdE es kvs xs → TdE ((.ref a, v) :: es) ((k, d) :: kvs) ((n, a, u) :: xs)
theorem TdE.len : ∀ {es : List (V × V)} {kvs : List (D × D)} {xs : List (NestedKey × Addr × Value)}, TdE es kvs xs → xs.length = kvs.length
  | _, _, _, .nil => rfl
  | _, _, _, .cons _ _ t => by simp [t.len]
theorem TdE.at_ {n : NestedKey} {k0 : D} (h0 : tkey k0 = some n) {K : Fg} {G : Wd} : ∀ {es : List (V × V)} {kvs : List (D × D)} {xs : List (NestedKey × Addr × Value)}, TdE es kvs xs → DqKT K G es kvs →
    (atKey xs n = none ∧ valAt kvs k0 = none) ∨ ∃ b u v d, atKey xs n = some (b, u) ∧ valAt kvs k0 = some d ∧ RelV v u ∧ Dq K G v d
  | _, _, _, .nil, _ => .inl ⟨rfl, rfl⟩
  | _, _, _, .cons (a := a) (v := v) (k := k) (d := d) (n := n') (u := u) h r t, .cons q1 q2 q3 => by
    have eq : D.eqv k k0 = decide (n' = n) := keyN_eqv (tkey_ok h).1 (tkey_ok h0).1
    by_cases z : n' = n
    · refine .inr ⟨a, u, v, d, ?_, ?_, r, q2⟩
      · unfold atKey; rw [List.find?_cons]; simp [z]
      · unfold valAt; rw [List.find?_cons, eq]; simp [z]
    · have e1 : ∀ l : List (NestedKey × Addr × Value), atKey ((n', a, u) :: l) n = atKey l n := fun l => by
        unfold atKey; rw [List.find?_cons]; simp [z]
      have e2 : ∀ l : List (D × D), valAt ((k, d) :: l) k0 = valAt l k0 := fun l => by
        unfold valAt; rw [List.find?_cons, eq]; simp [z]
      rw [e1, e2]
      exact t.at_ h0 q3
section
variable {X : Cx} {T : Tb} {c : Gh} {W : WX} {a b e o value : Expr} {es : List Expr} {f f1 f2 fo fv fk : MM D} {g : MM (List D)} {pos pos' p apos : Pos}
theorem TdE.put {n : NestedKey} {k0 d0 : D} {v0 : V} {u0 : Value} {K : Fg} {G : Wd} (h0 : tkey k0 = some n) (r0 : RelV v0 u0) (q0 : Dq K G v0 d0) : ∀ {es : List (V × V)} {kvs : List (D × D)} {xs : List (NestedKey × Addr × Value)}, TdE es kvs xs → DqKT K G es kvs →
    ∃ es', TdE es' (kvs.map fun kv => if D.eqv kv.1 k0 = true then (kv.1, d0) else kv) (xs.map (putAt n u0)) ∧ DqKT K G es' (kvs.map fun kv => if D.eqv kv.1 k0 = true then (kv.1, d0) else kv)
  | _, _, _, .nil, _ => ⟨[], .nil, .nil⟩
  | _, _, _, .cons (a := a) (v := v) (k := k) (d := d) (n := n') (u := u) h r t, .cons q1 q2 q3 => by
    obtain ⟨es', t1, t2⟩ := TdE.put h0 r0 q0 t q3
    have eq : D.eqv k k0 = decide (n' = n) := keyN_eqv (tkey_ok h).1 (tkey_ok h0).1
    simp only [List.map_cons, eq, putAt]
    by_cases z : n' = n
    · simp only [z, decide_true, if_true]
      exact ⟨(.ref a, v0) :: es', .cons (by rw [h, z]) r0 t1, .cons q1 q0 t2⟩
    · simp only [z, decide_false, if_false, Bool.false_eq_true]
      exact ⟨(.ref a, v) :: es', .cons h r t1, .cons q1 q2 t2⟩
theorem TdE.app {n : NestedKey} {k0 d0 : D} {v0 : V} {u0 : Value} {b : Addr} {K : Fg} {G : Wd} (h0 : tkey k0 = some n) (r0 : RelV v0 u0) (qb : Dq K G (.ref b) k0) (q0 : Dq K G v0 d0) : ∀ {es : List (V × V)} {kvs : List (D × D)} {xs : List (NestedKey × Addr × Value)}, TdE es kvs xs → DqKT K G es kvs →
    TdE (es ++ [(.ref b, v0)]) (kvs ++ [(k0, d0)]) (xs ++ [(n, b, u0)]) ∧ DqKT K G (es ++ [(.ref b, v0)]) (kvs ++ [(k0, d0)])
  | _, _, _, .nil, _ => ⟨.cons h0 r0 .nil, .cons qb q0 .nil⟩
  | _, _, _, .cons h r t, .cons q1 q2 q3 => by
    obtain ⟨t1, t2⟩ := TdE.app h0 r0 qb q0 t q3
    exact ⟨.cons h r t1, .cons q1 q2 t2⟩
end
end Mi
set_option Elab.async false
set_option linter.all false
set_option maxRecDepth 100000
set_option maxHeartbeats 4000000
namespace Mi
open PySem L2
section
variable {X : Cx} {T : Tb} {c : Gh} {W : WX} {a b e o value : Expr} {es : List Expr} {f f1 f2 fo fv fk : MM D} {g : MM (List D)} {pos pos' p apos : Pos}
def op2M (g : D → D → MM D) (f1 f2 : MM D) : MM D := MM.bind f1 fun x => MM.bind f2 fun y => g x y
def opTM (g : D → D → MM D) (f1 f2 : MM D) : MM Bool := MM.bind (op2M g f1 f2) fun x => lift (toB x)
/-- the pairs of a dict's cell, whose keys are ints and texts -/
def dicOf : Cell → Option (List (D × D))
  | .dic kvs => some kvs
  | .dlk kvs => some kvs
  | _ => none
/-- k in d -/
def inC (u : Cell) (k : D) : Option Bool := match dicOf u with
  | some kvs => (match keyOf k with
    | some _ => some (hasKey k kvs)
    | none => none)
  | none => (match u with
    | .tdc kvs => if (tkey k).isSome = true then some (hasKey k kvs) else none
    | _ => none)
def inM (neg : Bool) (x y : D) : MM D := fun ρ => match cellAt ρ y with
  | some (_, u) => (match inC u x with
    | some b => .ok (.bool (if neg = true then !b else b)) ρ
    | none => .stuck)
  | none => lift (if neg = true then dNotIn x y else dIn x y) ρ
/-- d[k] -/
def ixC (u : Cell) (k : D) : Option D := match dicOf u with
  | some kvs => (match keyOf k with
    | some _ => valAt kvs k
    | none => none)
  | none => (match u with
    | .tdc kvs => if (tkey k).isSome = true then valAt kvs k else none
    | .lst xs => (match k with
      | .int i => atI xs i
      | _ => none)
    | _ => none)
def ixM (x y : D) : MM D := fun ρ => match cellAt ρ x with
  | some (_, u) => (match ixC u y with
    | some d => .ok d ρ
    | none => .stuck)
  | none => lift (dIx x y) ρ
theorem IxR.or {r r' : R2} (h : IxR X r) (h' : IxR X r') : IxR X (fun x y H Q => r x y H Q ∨ r' x y H Q) := by
  intro value slice pins s σ H x y v u Q I rx ry q hs
  rcases q with q | q
  · exact h value slice pins s σ H x y v u Q I rx ry q hs
  · exact h' value slice pins s σ H x y v u Q I rx ry q hs
def putK (v d k : D) : MM Fl := fun ρ => match stoOf ρ, cellAt ρ d with
  | some (true, μ), some (n, .dic kvs) => (match keyOf k with
    | some _ => if kvs.length < sizeLine then .ok .nx (setSto ρ (μ.set n (.dic (putD kvs k v)))) else .stuck
    | none => .stuck)
  | _, _ => .stuck
def dputS (fv fd fk : MM D) : MM Fl := MM.bind fv fun v => MM.bind fd fun d => MM.bind fk fun k => Mi.putK v d k
def newC (u : Cell) : MM D := fun ρ => match stoOf ρ with
  | some (true, μ) => .ok (.loc μ.length) (setSto ρ (μ ++ [u]))
  | _ => .stuck
def newLst (g : MM (List D)) : MM D := MM.bind g fun xs => if small xs.length = true then newC (.lst xs) else stuck
end
end Mi
set_option Elab.async false
set_option linter.all false
set_option maxRecDepth 100000
set_option maxHeartbeats 4000000
namespace Mi
open PySem L2
section
variable {X : Cx} {T : Tb} {c : Gh} {W : WX} {a b e : Expr} {f f1 f2 : MM D} {pos p : Pos} {tg : Expr}
theorem DqAll.reverse {K : Fg} {G : Wd} : ∀ {vs : List V} {ds : List D}, DqAll K G vs ds → DqAll K G vs.reverse ds.reverse
  | _, _, .nil => .nil
  | _, _, .cons h t => by
    rw [List.reverse_cons, List.reverse_cons]
    exact (DqAll.reverse t).app (.one h)
end
end Mi
set_option Elab.async false
set_option linter.all false
set_option maxRecDepth 100000
set_option maxHeartbeats 4000000
namespace PySem
open Sem (wp)
open AutoSeq1 (wpAny_loadPart')
theorem mi_enumerate_newT (l : Addr) (items : Array Value) (n : Nat) (dct : Option Addr) (sl : Array (Option Value)) :
    Meets (Builtin.«enumerate.__new__» ⟨[.type "enumerate", .ref l], []⟩) (fun _ R s => s.heap.get? l = some { cls := .type "tuple", dict := dct, data := .seq items n, slots := sl } ∧
      R (.ok (.ret (.ref (s.heap.push { cls := .type "tuple_iterator", data := .fields #[.ref l, .int 0 0] }).objs.size)))
        { s with heap := (s.heap.push { cls := .type "tuple_iterator", data := .fields #[.ref l, .int 0 0] }).push { cls := .type "enumerate", data := .fields #[.none, .bool false, .ref s.heap.objs.size, rawInt 0, .none, .none] } }) :=
  .of_wp fun prog w A R s h => by
    obtain ⟨hp, g, d, tk, os⟩ := s; obtain ⟨hl, h⟩ := h
    have hsub := sub_enumerate
    have hL : Heap.IsTuple (Shared.heap ⟨hp, g, d, tk, os⟩) l items := ⟨_, hl, rfl, n, rfl⟩
    wp_walk using wpAny_loadPart' hl
    refine wpAny_stack_any fun st => wpAny_pure ?_
    split
    · rename_i c _ _ _ _ _
      cases (c == Value.type "enumerate")
      · wp_walk using wpAny_loadPart' hl, wpAny_pyIter_tuple hL
        exact ⟨_, rfl, h⟩
      · wp_walk using wpAny_loadPart' hl, wpAny_pyIter_tuple hL
        exact ⟨_, rfl, h⟩
    · wp_walk using wpAny_loadPart' hl, wpAny_pyIter_tuple hL
      exact ⟨_, rfl, h⟩
section
variable {prog : Program} {w : World} {A : Around} {E : Value → Shared → Prop} {s : Shared}
theorem mi_call_enumerateT {l : Addr} {items : Array Value} {Q : Value → Shared → Prop} (hL : s.heap.IsTuple l items)
    (h : ∀ h', IsEnum h' (s.heap.objs.size + 1) s.heap.objs.size 0 .none → h'.IsTupleIter s.heap.objs.size l 0 → h'.objs.size = s.heap.objs.size + 2 →
      (∀ b o, s.heap.get? b = some o → h'.get? b = some o) → Q (.ref (s.heap.objs.size + 1)) { s with heap := h' }) :
    wpAny (model prog w) A (call (.type "enumerate") [.ref l]) Q E s := by
  obtain ⟨⟨c, dct, dt, sl⟩, hl, hc, n, hd⟩ := hL
  replace hc : c = .type "tuple" := hc
  replace hd : dt = .seq items n := hd
  subst hc hd
  refine callType_new F.called_enumerate (by decide) (F.typeCall_enumerate_1 _) (F.newCall_enumerate_1 _) (fun obj => F.args_object_init_2 obj _) F.entry_enumerate_new
    (mi_enumerate_newT l items n dct sl) ⟨hl, ?_⟩
  have hz : (s.heap.push { cls := .type "tuple_iterator", data := .fields #[.ref l, .int 0 0] }).objs.size = s.heap.objs.size + 1 := Heap.size_push ..
  show _ ∧ _
  rw [hz]
  have he : IsEnum ((s.heap.push { cls := .type "tuple_iterator", data := .fields #[.ref l, .int 0 0] }).push
      { cls := .type "enumerate", data := .fields #[.none, .bool false, .ref s.heap.objs.size, rawInt 0, .none, .none] }) (s.heap.objs.size + 1) s.heap.objs.size 0 .none := by
    have := Heap.get?_push_size (s.heap.push { cls := .type "tuple_iterator", data := .fields #[.ref l, .int 0 0] })
      (o := { cls := .type "enumerate", data := .fields #[.none, .bool false, .ref s.heap.objs.size, rawInt 0, .none, .none] }) rfl
    rw [hz] at this; exact this
  refine ⟨⟨_, he, rfl⟩, h _ he ⟨_, Heap.get?_push_of_some _ (Heap.get?_push_size _ rfl), rfl, rfl⟩ (by rw [Heap.size_push, hz]) fun b o x => Heap.get?_push_of_some _ (Heap.get?_push_of_some _ x)⟩
end
end PySem
namespace Mi
open PySem PySem.Spec PyProof.Rows L2
def IteT (K : PySem.W.Frag) (a : Addr) : It :=
  ⟨fun i H => ∃ (xs : List V) (x : V), SqT K H a xs ∧ xs[i]? = some x, fun i H v H' => ∃ T x, v = .ref T ∧ H T = none ∧ H' = upd H T (.tup [.int (i : Nat), x]) ∧ ∀ xs, SqT K H a xs → xs[i]? = some x, fun i H => ∃ xs : List V, SqT K H a xs ∧ xs.length = i⟩
theorem turn_enumT {P : Program} {w : World} {K : PySem.W.Frag} {elts : List Expr} {kk : Nat} {tpos : Pos} (a e it : Addr) :
    Turn P w K (.Tuple elts kk tpos) (IteT K a) [e, it] e (fun i h => (∃ old, IsEnum h e it ((i : Nat) : Int) old) ∧ h.IsTupleIter it a i ∧ e ≠ it) where
  mem := by simp
  obj := fun i h st b hb => by
    obtain ⟨⟨old, he⟩, ⟨o, ho, hc, hd⟩, _⟩ := st
    have e' : b = e ∨ b = it := by simpa using hb
    rcases e' with z | z
    · rw [z]; exact ⟨_, he, fun v q => nomatch q⟩
    · rw [z]; exact ⟨o, ho, fun v q => by rw [hd] at q; cases q⟩
  keep := fun i h h' st k => let ⟨⟨old, he⟩, ⟨o, ho, hc, hd⟩, hne⟩ := st; ⟨⟨old, k e (by simp) _ he⟩, ⟨o, k it (by simp) o ho, hc, hd⟩, hne⟩
  item := by
    intro X hP hw hK hc i pins s σ H E I hf st hg
    subst hP hw hK
    obtain ⟨⟨old, he⟩, hit, hne⟩ := st
    obtain ⟨xs, x, hq, hx⟩ := hg
    obtain ⟨its, rv, p, hz⟩ := I.tuple hq
    obtain ⟨u, hu, ru⟩ := rv.get hx
    have hel : e < s.heap.objs.size := Heap.lt_size he
    have hil : it < s.heap.objs.size := by obtain ⟨_, q, _⟩ := hit; exact Heap.lt_size q
    have hit0 := hit
    have nai : a ≠ it := fun z => by
      obtain ⟨o1, q1, c1, _⟩ := hit0
      obtain ⟨o2, q2, c2, _⟩ := p
      rw [z, q1] at q2; cases q2
      rw [c1] at c2; injection c2 with c2; exact absurd c2 (by decide)
    have nae : e ≠ a := fun z => by
      obtain ⟨o2, q2, c2, _⟩ := p
      rw [← z, show s.heap.get? e = _ from he] at q2; cases q2
      injection c2 with c2; exact absurd c2 (by decide)
    have hlt : i < its.toArray.size := by simpa using (List.getElem?_eq_some_iff.mp hu).1
    have D := Draws.tuple (prog := X.prog) (w := X.w) (A := X.A.in1) (I.ok.hd hc) it a nai its.toArray
    refine wpAny_pyNext_enum_itemD D he ⟨hit, p⟩ hlt hne (by simp [hne, nae]) fun v h' tk pv ho hst' hT hsz hk => ?_
    have ev : v = u := by
      rw [List.getElem?_toArray] at pv
      rw [hu] at pv; cases pv; rfl
    subst ev
    obtain ⟨hit', _⟩ := hst'
    refine ⟨_, rfl, wpAny_letOwnedTupleGo_enum (s := { s with heap := h', toks := tk + 1 }) ho fun h'' he' sb => ?_⟩
    have hT2 : h''.get? s.heap.objs.size = some { cls := .type "tuple", data := .seq #[.int i tk, v] } := (sb.2 _ (Nat.ne_of_gt hel)).trans hT
    have new : ObjOk X.prog X.w (upd H s.heap.objs.size (.tup [.int (i : Nat), x])) h'' s.heap.objs.size (.tup [.int (i : Nat), x]) :=
      ⟨by show 2 ≤ sizeLine; decide, [.int i tk, v], .cons ⟨_, rfl⟩ (.cons ru .nil), ⟨_, hT2, rfl, _, rfl⟩⟩
    have I1 : Inv X pins σ (upd H s.heap.objs.size (.tup [.int (i : Nat), x])) { s with heap := h'', toks := tk + 1 } :=
      I.turnedNew (ch := [e, it]) (fun b ob hb q => (sb.2 b (fun z => hb (by simp [z]))).trans (hk b ob (fun z => hb (by simp [z])) (fun z => hb (by simp [z])) q)) hf (Nat.le_refl _) new
    obtain ⟨ot, o1, o2, o3⟩ := hit'
    refine ⟨.ref s.heap.objs.size, _, I1, rfl, ⟨_, x, rfl, I.hok.fresh (Nat.le_refl _), rfl, fun ys hy => by rw [I.tuple_inj hy hq]; exact hx⟩, ⟨⟨v, ?_⟩, ⟨ot, (sb.2 it (Ne.symm hne)).trans o1, o2, o3⟩, hne⟩, fun b hb => ?_⟩
    · have e1 : ((i + 1 : Nat) : Int) = (i : Int) + 1 := by omega
      rw [e1]; exact he'
    · have hb' : b < s.heap.objs.size := by
        have e' : b = e ∨ b = it := by simpa using hb
        rcases e' with z | z
        · rw [z]; exact hel
        · rw [z]; exact hil
      rw [upd_ne (Nat.ne_of_lt hb')]
      exact (hf b hb).1
  done := by
    intro X hP hw hK hc i pins s σ H E I hf st hg
    subst hP hw hK
    obtain ⟨⟨old, he⟩, hit, hne⟩ := st
    obtain ⟨xs, hq, hx⟩ := hg
    obtain ⟨its, rv, p, hz⟩ := I.tuple hq
    obtain ⟨f0, f1, f2, f3, f4, f5⟩ := hf it (by simp)
    have hl := rv.length
    have nai : a ≠ it := fun z => by
      obtain ⟨o1, q1, c1, _⟩ := hit
      obtain ⟨o2, q2, c2, _⟩ := p
      rw [z, q1] at q2; cases q2
      rw [c1] at c2; injection c2 with c2; exact absurd c2 (by decide)
    have D := Draws.tuple (prog := X.prog) (w := X.w) (A := X.A.in1) (I.ok.hd hc) it a nai its.toArray
    have en : its.toArray.size = i := by simp; omega
    exact wpAny_pyNext_enum_endD D he ⟨by rw [en]; exact hit, p⟩ fun h' eb => ⟨rfl, I.turned (t' := s.toks) (fun b o hb q => eb b o hb q) f0 f1 f3 f4 f5⟩
  self := fun A i s Q E st h => let ⟨⟨_, he⟩, _⟩ := st; wpAny_pyIter_enum he h
section
variable {X : Cx} {T : Tb} {c : Gh} {W : WX} {e : Expr} {p pos : Pos}
def iEnumA (K : PySem.W.Frag) (ta : TA) : TI := fun σ H R => ta σ H fun vs H1 => ∃ a xs, vs = [.ref a] ∧ ((SqL K H1 a xs ∧ R (Ite K a) H1) ∨ (SqT K H1 a xs ∧ R (IteT K a) H1))
theorem pi_enumA {ta : TA} {tpos : Pos} {elts : List Expr} {kk : Nat} (hg : Gl X "enumerate") (hm : X.mg "enumerate" = none) (ha : PA X [e] ta) (hs : starEach [e] X.env = [(false, eval e X.env)] := by rfl) :
    PI X (.Tuple elts kk tpos) (.Call (.Name "enumerate" p) [e] [] pos) (iEnumA X.K ta) := by
  refine ⟨fun pins s σ H R I h => ?_⟩
  refine Call_ (ld_blt I hg hm boot_enumerate (PyProof.Rows.callWith_type1 (thn (ha.run pos pins s σ H _ I h) fun us s1 ⟨vs, H1, I1, r1, q1⟩ => ?_) hs rfl))
  obtain ⟨a, xs, ex, q⟩ := q1
  subst ex
  cases r1 with
  | cons r rr =>
    cases rr
    cases r
    have fp : ∀ b ∈ [s1.heap.objs.size + 1, s1.heap.objs.size], FpOk X pins H1 b := fun b hb => by
      have e' : b = s1.heap.objs.size + 1 ∨ b = s1.heap.objs.size := by simpa using hb
      have hle : s1.heap.objs.size ≤ b := by
        rcases e' with z | z
        · rw [z]; exact Nat.le_add_right _ _
        · rw [z]; exact Nat.le_refl _
      exact I1.fpOk hle (I1.hok.fresh hle)
    rcases q with ⟨hq, q⟩ | ⟨hq, q⟩
    · obtain ⟨its, rv, p', hz⟩ := I1.list hq
      refine call_enumerate_list p'.isList fun h' he hit hsz hk => wpAny_pyIter_enum he ?_
      have I2 : Inv X pins σ H1 { s1 with heap := h' } := I1.kept (t' := s1.toks) hk
      exact ⟨s1.heap.objs.size + 1, [s1.heap.objs.size + 1, s1.heap.objs.size], _, _, H1, rfl, I2, turn_enum a (s1.heap.objs.size + 1) s1.heap.objs.size, ⟨⟨.none, he⟩, hit, Nat.succ_ne_self _⟩, fp, q⟩
    · obtain ⟨its, rv, p', hz⟩ := I1.tuple hq
      refine mi_call_enumerateT p' fun h' he hit hsz hk => wpAny_pyIter_enum he ?_
      have I2 : Inv X pins σ H1 { s1 with heap := h' } := I1.kept (t' := s1.toks) hk
      exact ⟨s1.heap.objs.size + 1, [s1.heap.objs.size + 1, s1.heap.objs.size], _, _, H1, rfl, I2, turn_enumT a (s1.heap.objs.size + 1) s1.heap.objs.size, ⟨⟨.none, he⟩, hit, Nat.succ_ne_self _⟩, fp, q⟩
def enumA : List D → Res (List D)
  | [.list xs] => .ok (enumD 0 xs)
  | [.tuple xs] => .ok (enumD 0 xs)
  | _ => .stuck
theorem gives_enumT {K : Fg} {c : Gh} {G : Wd} {a : Addr} {vs : List V} {ds : List D} (hq : SqT K G a vs) (hr : DqAll K G vs ds) : Gives (relY K) (IteT K a) c G (enumD 0 ds) where
  go := fun i G1 H l1 l2 _ hi => by
    rw [enumD_length, ← hr.length] at hi
    exact ⟨vs, vs[i], sqT_sub (sqT_sub hq l1.sub) l2.sub, by simp [hi]⟩
  stop := fun G1 H l1 l2 _ => ⟨vs, sqT_sub (sqT_sub hq l1.sub) l2.sub, by rw [enumD_length, ← hr.length]⟩
  yld := fun i G1 H x H' l1 l2 _ hi y => by
    obtain ⟨T, u, rfl, hn, rfl, y1⟩ := y
    obtain ⟨d1, e1, q1⟩ := hr.get (y1 vs (sqT_sub (sqT_sub hq l1.sub) l2.sub))
    have l3 : Le G1 (wupd G1 T (.tup [V.int i, u])) := Le.upd (le_none l2 hn)
    refine ⟨.tuple [.int i, d1], by simpa using enumD_get (n := 0) e1, .inr ⟨T, _, hn, (by intro _ z; cases z), rfl, .inr ⟨T, _, _, rfl, rfl, SqT.of upd_same, .cons (.int _) (.cons ((q1.le l1).le l3) .nil)⟩⟩⟩
theorem mi_enumA {g : MM (List D)} {tpos : Pos} {elts : List Expr} {kk : Nat} (hg : Gl X "enumerate") (hm : X.mg "enumerate" = none) (ha : PA X [e] (mA X.K T c W g)) (hs : starEach [e] X.env = [(false, eval e X.env)] := by rfl) :
    PI X (.Tuple elts kk tpos) (.Call (.Name "enumerate" p) [e] [] pos) (mI X.K T c W (relY X.K) (MM.bind g fun ds => lift (enumA ds))) := by
  refine ⟨fun pins s σ H R I h => (pi_enumA hg hm ha hs).run pins s σ H R I ?_⟩
  obtain ⟨G, ρ, j, p⟩ := h
  refine pX_bind j p fun ds vs ρ1 G1 H1 l1 j1 r1 p1 => ?_
  cases r1 with
  | nil => exact p1.elim
  | cons d1 r1 =>
    cases r1 with
    | cons _ _ => cases d1 <;> exact p1.elim
    | nil =>
      cases d1 with
      | lst h1 h2 => exact ⟨_, _, rfl, .inl ⟨sqL_sub (.inl h1) j1.subH, p1 _ G1 H1 (Le.refl G1) j1 (gives_enum (.inl h1) h2)⟩⟩
      | tup h1 h2 => exact ⟨_, _, rfl, .inr ⟨sqT_sub h1.sq j1.subH, p1 _ G1 H1 (Le.refl G1) j1 (gives_enumT h1.sq h2)⟩⟩
      | _ => exact p1.elim
end
end Mi
set_option Elab.async false
set_option linter.all false
set_option maxRecDepth 100000
set_option maxHeartbeats 1000000
namespace Mi
open PySem PySem.Spec PyProof.Rows L2
mutual
theorem py_inj : ∀ (d e : D), noDict d = true → noDict e = true → d.py = e.py → d = e
  | .none, e, _, h2, h => by cases e <;> first | rfl | (cases h; done) | (cases h2; done)
  | .bool b, e, _, h2, h => by cases e <;> first | (cases h; rfl) | (cases h; done) | (cases h2; done)
  | .int i, e, _, h2, h => by cases e <;> first | (cases h; rfl) | (cases h; done) | (cases h2; done)
  | .str u, e, _, h2, h => by cases e <;> first | (cases h; rfl) | (cases h; done) | (cases h2; done)
  | .list xs, e, h1, h2, h => by
    cases e with
    | list ys =>
      have h' : PyData.list (pys xs) = PyData.list (pys ys) := h
      injection h' with q
      rw [pys_inj xs ys h1 h2 q]
    | _ => first | (cases h; done) | (cases h2; done)
  | .tuple xs, e, h1, h2, h => by
    cases e with
    | tuple ys =>
      have h' : PyData.tuple (pys xs) = PyData.tuple (pys ys) := h
      injection h' with q
      rw [pys_inj xs ys h1 h2 q]
    | _ => first | (cases h; done) | (cases h2; done)
  | .dict kvs, _, h1, _, _ => by cases h1
  | .loc n, _, h1, _, _ => by cases h1
  | .exc n, _, h1, _, _ => by cases h1
  | .fn n, _, h1, _, _ => by cases h1
theorem pys_inj : ∀ (xs ys : List D), noDicts xs = true → noDicts ys = true → pys xs = pys ys → xs = ys
  | [], ys, _, _, h => by cases ys with
    | nil => rfl
    | cons y ys => cases h
  | x :: xs, ys, h1, h2, h => by
    cases ys with
    | nil => cases h
    | cons y ys =>
      have h' : x.py :: pys xs = y.py :: pys ys := h
      injection h' with q1 q2
      rw [noDicts, Bool.and_eq_true] at h1 h2
      rw [py_inj x y h1.1 h2.1 q1, pys_inj xs ys h1.2 h2.2 q2]
end
def mmOk (ds : List D) : Bool := alikeB ds && noDicts ds && ds.all fun d => !isNone d && decide (d.depth ≤ 60)
def minF (x : D) (xs : List D) : D := xs.foldl (fun a y => if PySem.W.dataLt y.py a.py = true then y else a) x
def maxF (x : D) (xs : List D) : D := xs.foldl (fun a y => if PySem.W.dataLt a.py y.py = true then y else a) x
theorem minF_py : ∀ (xs : List D) (x : D), (minF x xs).py = PySem.W.minD x.py (pys xs)
  | [], x => rfl
  | y :: ys, x => by
    show (minF (if PySem.W.dataLt y.py x.py = true then y else x) ys).py = PySem.W.minD (if PySem.W.dataLt y.py x.py = true then y.py else x.py) (pys ys)
    rw [minF_py ys]
    split <;> rfl
theorem minF_mem : ∀ (xs : List D) (x : D), minF x xs ∈ x :: xs
  | [], x => by simp [minF]
  | y :: ys, x => by
    have h : minF x (y :: ys) = minF (if PySem.W.dataLt y.py x.py = true then y else x) ys := rfl
    rw [h]
    have := minF_mem ys (if PySem.W.dataLt y.py x.py = true then y else x)
    by_cases z : PySem.W.dataLt y.py x.py = true
    · rw [if_pos z] at this ⊢
      exact List.mem_cons_of_mem _ this
    · rw [if_neg z] at this ⊢
      rcases List.mem_cons.mp this with e | e
      · rw [e]; exact List.mem_cons_self
      · exact List.mem_cons_of_mem _ (List.mem_cons_of_mem _ e)
theorem nd_mem : ∀ {ds : List D} {d : D}, noDicts ds = true → d ∈ ds → noDict d = true
  | x :: xs, d, h, m => by
    rw [noDicts, Bool.and_eq_true] at h
    rcases List.mem_cons.mp m with rfl | m
    · exact h.1
    · exact nd_mem h.2 m
theorem depthAll_le {n : Nat} : ∀ {ds : List D}, (∀ d ∈ ds, d.depth ≤ n) → PyData.depthAll (pys ds) ≤ n
  | [], _ => Nat.zero_le _
  | d :: ds, h => by
    have h1 := h d List.mem_cons_self
    have h2 := depthAll_le (ds := ds) fun d m => h d (List.mem_cons_of_mem _ m)
    show PyData.depthAll (d.py :: pys ds) ≤ n
    rw [PyData.depthAll]
    exact Nat.max_le.mpr ⟨h1, h2⟩
theorem vals_get : ∀ {vs : List V} {us : List Value} {i : Nat} {u : Value}, Vals vs us → us[i]? = some u → ∃ v, vs[i]? = some v ∧ RelV v u
  | _, _, i, u, .nil, h => by simp at h
  | _, _, 0, u, .cons r t, h => by simp at h; subst h; exact ⟨_, rfl, r⟩
  | _, _, i + 1, u, .cons r t, h => by
    obtain ⟨v, h1, h2⟩ := vals_get t (by simpa using h)
    exact ⟨v, by simpa using h1, h2⟩
theorem dqAll_get {K : Fg} {G : Wd} : ∀ {vs : List V} {ds : List D} {i : Nat} {v : V}, DqAll K G vs ds → vs[i]? = some v → ∃ d, ds[i]? = some d ∧ Dq K G v d
  | _, _, i, v, .nil, h => by simp at h
  | _, _, 0, v, .cons r t, h => by simp at h; subst h; exact ⟨_, rfl, r⟩
  | _, _, i + 1, v, .cons r t, h => by
    obtain ⟨d, h1, h2⟩ := dqAll_get t (by simpa using h)
    exact ⟨d, by simpa using h1, h2⟩
section
variable {X : Cx} {T : Tb} {c : Gh} {W : WX} {a b e : Expr} {f f1 f2 : MM D} {pos p : Pos}
def rPick (K : Fg) (pick : PyData → List PyData → PyData) : List V → Hp → VK → Prop := fun xs H Q => ∃ a vs d ds, xs = [V.ref a] ∧ SqL K H a vs ∧ DpAll K H vs (pys (d :: ds)) ∧ mmOk (d :: ds) = true ∧
  ∀ (i : Nat) v e, vs[i]? = some v → (d :: ds)[i]? = some e → e.py = pick d.py (pys ds) → Q v H
theorem mm_alike {ds : List D} (h : mmOk ds = true) : PySem.W.AlikeAll (pys ds) := by
  unfold mmOk at h
  simp only [Bool.and_eq_true, List.all_eq_true, decide_eq_true_eq] at h
  obtain ⟨⟨h1, h2⟩, h3⟩ := h
  refine ⟨?_, fun x m => ?_⟩
  · rw [pys_map]; exact alikeB_ok h1
  · rw [pys_map] at m
    obtain ⟨d, md, rfl⟩ := List.mem_map.mp m
    have := (h3 d md).1
    have nd := nd_mem h2 md
    intro z
    cases d <;> first | (cases z; done) | (cases this; done) | (cases nd; done)
theorem mm_depth {ds : List D} (h : mmOk ds = true) : PyData.depthAll (pys ds) ≤ 60 := by
  unfold mmOk at h
  simp only [Bool.and_eq_true, List.all_eq_true, decide_eq_true_eq] at h
  exact depthAll_le fun d m => (h.2 d m).2
theorem mm_nd {ds : List D} (h : mmOk ds = true) : noDicts ds = true := by
  unfold mmOk at h
  simp only [Bool.and_eq_true] at h
  exact h.1.2
theorem pys_get {ds : List D} {i : Nat} (h : i < ds.length) : (pys ds).getD i .none = (ds[i]'h).py := by
  rw [pys_map]
  simp [List.getD, h]
theorem cr_minG (hc : X.calm = true) (hu : X.A.units + 64 < cLine) : CallR X (.builtin "min") (rPick X.K PySem.W.minD) := by
  intro pins s σ H xs us Q I r h
  obtain ⟨a, vs, d, ds, rfl, hs, dp, ok, q⟩ := h
  obtain ⟨its, rv, pl, hz⟩ := I.list hs
  rw [Vals.ref1 r]
  obtain ⟨as, hr⟩ := Dp.readsAll I _ _ _ dp rv
  have dd := mm_depth ok
  refine PySem.W.min_list_data (I.ok.hd hc) pl.isList hr (mm_alike ok) (by show X.A.units + 1 + PyData.depthAll (pys (d :: ds)) < _; omega) fun i v h' tk bs hv hR hk => ?_
  obtain ⟨w, hw, rw_⟩ := vals_get rv (by simpa using hv)
  obtain ⟨bs', r1, hi, _, _⟩ := PySem.W.readsAll_atA hr i v hv
  have hi' : i < (d :: ds).length := by simpa [pys_map] using hi
  have e1 := (reads_det (fun b o e _ => hk b o e) r1 hR).1
  refine ⟨w, H, I.kept hk, rw_, q i w ((d :: ds)[i]'hi') hw (List.getElem?_eq_getElem hi') ?_⟩
  rw [e1, ← pys_get hi']
def dMinG : List D → Res D
  | [.list (x :: xs)] => if mmOk (x :: xs) = true then .ok (minF x xs) else .stuck
  | ds => dMin ds
theorem mm_pick {K : Fg} {G : Wd} {vs : List V} {x : D} {xs : List D} {i : Nat} {v : V} {e m : D} (ok : mmOk (x :: xs) = true) (h3 : DqAll K G vs (x :: xs)) (hv : vs[i]? = some v) (he : (x :: xs)[i]? = some e) (hm : m ∈ x :: xs) (hp : e.py = m.py) : Dq K G v m := by
  obtain ⟨d, hd, q⟩ := dqAll_get h3 hv
  rw [he] at hd
  cases hd
  have nd := mm_nd ok
  have : e = m := py_inj e m (nd_mem nd (List.mem_of_getElem? he)) (nd_mem nd hm) hp
  rw [← this]; exact q
theorem b_minG (hc : X.calm = true) (hu : X.A.units + 64 < cLine) : Fn1 X T c W (.builtin "min") dMinG := by
  obtain ⟨r, h, k⟩ := b_min (X := X) (T := T) (c := c) (W := W) hc
  refine ⟨_, CallR.or h (cr_minG hc hu), fun σ ρ G H xs ds Q j dx p => ?_⟩
  unfold dMinG at p
  split at p
  · rename_i x es
    by_cases ok : mmOk (x :: es) = true
    · rw [if_pos ok] at p
      obtain ⟨a, vs, rfl, h2, h3⟩ := one_list dx
      refine .inr ⟨a, vs, x, es, rfl, sqL_sub (.inl h2) j.sub.sub, dpAll_of (h3.up j.sub) (mm_nd ok), ok, fun i v e hv he hp => p.here j (mm_pick ok h3 hv he (minF_mem es x) ?_)⟩
      rw [hp, minF_py]
    · rw [if_neg ok] at p; exact p.elim
  · exact .inl (k σ ρ G H xs _ Q j dx p)
end
end Mi
set_option Elab.async false
set_option linter.all false
set_option maxRecDepth 100000
set_option maxHeartbeats 4000000
namespace Mi
open PySem PySem.Spec PyProof.Rows L2
def borrowK (i : Nat) (f : MM D) : MM D := fun ρ => match ρ[i]? with
  | some (some (.od _)) => match f (seen (frzS i ρ)) with
    | .ok d _ => if scal d = true then .ok d ρ else .stuck
    | _ => .stuck
  | _ => .stuck
section
variable {X : Cx} {T : Tb} {c : Gh} {W : WX} {a b e : Expr} {f f1 f2 f3 : MM D} {g1 : MM Bool} {pos p : Pos}
def lputS (i : Nat) (fv fk : MM D) : MM Fl := MM.bind fv fun v => fun ρ => match ρ[i]? with
  | some (some (.ol _)) => MM.bind fk (fun k ρ' => match ρ'[i]?, k with
    | some (some (.ol xs)), .int n => if 0 ≤ n ∧ n < xs.length then .ok .nx (ρ'.set i (some (.ol (xs.set n.toNat v)))) else .stuck
    | _, _ => .stuck) ρ
  | _ => .stuck
def ifO (t : MM Bool) (f g : MM S) : MM S := MM.bind t fun b => if b = true then f else g
def idxD (ds : List D) : D → Res D
  | .int n => match toInts ds with
    | some ns => if n ∈ ns then .ok (.int (ns.idxOf n : Nat)) else .stuck
    | none => .stuck
  | _ => .stuck
def indexK (f2 : MM D) : D → MM D
  | .list ds => MM.bind f2 fun y => lift (idxD ds y)
  | _ => stuck
def indexE (f1 f2 : MM D) : MM D := MM.bind f1 (indexK f2)
def dMaxDef : List D → D → Res D
  | [.list []], d => .ok d
  | [.list (x :: xs)], _ => if mmOk (x :: xs) = true then .ok (maxF x xs) else .stuck
  | _, _ => .stuck
def maxDefE (g : MM (List D)) (f : MM D) : MM D := MM.bind g fun xs => MM.bind f fun d => lift (dMaxDef xs d)
end
end Mi
set_option Elab.async false
set_option linter.all false
set_option maxRecDepth 100000
set_option maxHeartbeats 4000000
namespace Mi
open PySem PySem.Spec PyProof.Rows L2
section
variable {X : Cx} {T : Tb} {c : Gh} {W : WX} {a b e : Expr} {f f1 f2 : MM D} {pos p : Pos}
def repOL (xs : List D) : D → Res S
  | .int k => if -(2 ^ 63) ≤ k ∧ k < 2 ^ 63 ∧ xs.length * k.toNat ≤ sizeLine then .ok (.ol (List.replicate k.toNat xs).flatten) else .stuck
  | _ => .stuck
def repO (g : MM (List D)) (f : MM D) : MM S := MM.bind g fun xs => MM.bind (lift (mkL xs)) fun _ => MM.bind f fun y => lift (repOL xs y)
theorem mo_rep {es : List Expr} {g : MM (List D)} {lp : Pos} (h : PA X es (mA X.K T c W g)) (he : PE X e (mE X.K T c W f)) : PE X (.BinOp (.List es lp) .Mult e pos) (mO X.K T c W (repO g f)) := by
  refine pe_mono (pe_op op_repL (pe_lst h) he) fun σ H Q ⟨G, ρ, j, p⟩ => ?_
  refine pO_bind j p fun x v ρ1 G1 H1 l1 j1 r1 p1 => ?_
  unfold MM.bind at p1
  unfold mkL lift at p1
  by_cases hs : small x.length = true
  · rw [if_pos hs] at p1
    simp only at p1
    refine ⟨by rw [r1.length]; exact of_decide_eq_true hs, fun q hq => ?_⟩
    have j2 := j1.grow (o := .lst v) hq
    refine pO_bind j2 (pO.le (Le.upd (j1.fresh hq)) p1) fun y w ρ2 G2 H2 l2 j3 r2 p2 => ?_
    cases r2 with
    | int k =>
      unfold repOL at p2
      simp only at p2
      by_cases hk : -(2 ^ 63) ≤ k ∧ k < 2 ^ 63 ∧ x.length * k.toNat ≤ sizeLine
      · rw [if_pos hk] at p2
        have hr : Rd H2 q (.lst v) := j3.sub.sub.rd _ _ (fun _ _ z => by cases z) (.inl (l2.h _ _ upd_same))
        exact ⟨_, _, _, rfl, rfl, hr, hk.1, hk.2.1, by rw [r1.length]; exact hk.2.2, fun q' hq' => pO.new p2 j3 hq' (((r1.le (Le.upd (j1.fresh hq))).le l2).rep _)⟩
      · rw [if_neg hk] at p2; exact p2.elim
    | _ => exact p2.elim
  · rw [if_neg hs] at p1; exact p1.elim
end
end Mi
set_option Elab.async false
set_option linter.all false
set_option maxRecDepth 100000
set_option maxHeartbeats 4000000
set_option Elab.async false
set_option linter.all false
set_option maxRecDepth 100000
set_option maxHeartbeats 4000000
namespace Mi
open PySem L2
section
variable {f f1 f2 fv fk : MM D} {fo fo1 fo2 : MM S} {g : MM (List D)} {t : MM Bool} {k i : Nat} {ρ ρ' : MSt} {d v x y : D} {xs : List D} {kvs : List (D × D)} {n : Int} {b : Bool}
theorem ol_ifF {α : Type} {o : Option (Option S)} {A : Out α} : (match o with | some (some (.ol _)) => A | _ => .stuck) = if isOl o = true then A else .stuck := by
  cases o with
  | none => rfl
  | some o => cases o with
    | none => rfl
    | some s => cases s <;> rfl
theorem od_ifF {α : Type} {o : Option (Option S)} {A : Out α} : (match o with | some (some (.od _)) => A | _ => .stuck) = if isOd o = true then A else .stuck := by
  cases o with
  | none => rfl
  | some o => cases o with
    | none => rfl
    | some s => cases s <;> rfl
def lputK2 (k : Nat) (v : D) (ρ : MSt) (o : Option (Option S)) (x : D) : Out Fl := match o, x with
  | some (some (.ol xs)), .int n => if 0 ≤ n ∧ n < xs.length then .ok .nx (ρ.set k (some (.ol (xs.set n.toNat v)))) else .stuck
  | _, _ => .stuck
def lputJ (k : Nat) (v : D) (o : Out D) : Out Fl := Out.bind o fun x ρ => lputK2 k v ρ ρ[k]? x
def lputI (k : Nat) (fk : MM D) (o : Out D) : Out Fl := Out.bind o fun v ρ => if isOl ρ[k]? = true then lputJ k v (fk ρ) else .stuck
@[simp] theorem lputS_ap : lputS k fv fk ρ = lputI k fk (fv ρ) := by
  unfold lputS lputI
  show Out.bind (fv ρ) _ = Out.bind (fv ρ) _
  congr 1
  funext v ρ
  show (match ρ[k]? with | some (some (.ol _)) => lputJ k v (fk ρ) | _ => .stuck) = _
  exact ol_ifF
@[simp] theorem lputI_ok : lputI k fk (.ok d ρ) = if isOl ρ[k]? = true then lputJ k d (fk ρ) else .stuck := rfl
@[simp] theorem lputJ_ok : lputJ k d (.ok x ρ) = lputK2 k d ρ ρ[k]? x := rfl
@[simp] theorem lputK2_ok : lputK2 k d ρ (some (some (.ol xs))) (.int n) = if 0 ≤ n ∧ n < xs.length then .ok .nx (ρ.set k (some (.ol (xs.set n.toNat d)))) else .stuck := rfl
def indexJ (f2 : MM D) (o : Out D) : Out D := Out.bind o (indexK f2)
@[simp] theorem indexE_ap : indexE f1 f2 ρ = indexJ f2 (f1 ρ) := rfl
@[simp] theorem indexJ_ok : indexJ f2 (.ok (.list xs) ρ) = Out.bind (f2 ρ) (fun y => lift (idxD xs y)) := rfl
def repJ (f : MM D) (o : Out (List D)) : Out S := Out.bind o fun xs => MM.bind (lift (mkL xs)) fun _ => MM.bind f fun y => lift (repOL xs y)
@[simp] theorem repO_ap : repO g f ρ = repJ f (g ρ) := rfl
@[simp] theorem repJ_ok : repJ f (.ok xs ρ) = if xs.length ≤ 16777216 then Out.bind (f ρ) (fun y => lift (repOL xs y)) else .stuck := by
  have e : repJ f (.ok xs ρ) = MM.bind (lift (mkL xs)) (fun _ => MM.bind f fun y => lift (repOL xs y)) ρ := rfl
  rw [e]
  unfold mkL small
  have : sizeLine = 16777216 := sizeLine_eq
  by_cases h : xs.length ≤ 16777216
  · rw [if_pos h, if_pos (decide_eq_true (by omega))]; rfl
  · rw [if_neg h, if_neg (fun z => h (by have := of_decide_eq_true z; omega))]; rfl
def ifOK (fo1 fo2 : MM S) (o : Out Bool) : Out S := Out.bind o fun b => if b = true then fo1 else fo2
@[simp] theorem ifO_ap : ifO t fo1 fo2 ρ = ifOK fo1 fo2 (t ρ) := rfl
@[simp] theorem ifOK_ok : ifOK fo1 fo2 (.ok b ρ) = if b = true then fo1 ρ else fo2 ρ := by cases b <;> rfl
def maxDefJ (f : MM D) (o : Out (List D)) : Out D := Out.bind o fun xs => MM.bind f fun d => lift (dMaxDef xs d)
@[simp] theorem maxDefE_ap : maxDefE g f ρ = maxDefJ f (g ρ) := rfl
@[simp] theorem maxDefJ_ok : maxDefJ f (.ok xs ρ) = Out.bind (f ρ) (fun d => lift (dMaxDef xs d)) := rfl
@[simp] theorem borrowK_ap : borrowK i f ρ = if isOd ρ[i]? = true then borK ρ (f (seen (frzS i ρ))) else .stuck := by
  show (match ρ[i]? with | some (some (.od _)) => borK ρ (f (seen (frzS i ρ))) | _ => .stuck) = _
  exact od_ifF
end
end Mi
set_option Elab.async false
set_option linter.all false
set_option maxRecDepth 100000
set_option maxHeartbeats 4000000
namespace Zl
open PySem PySem.W PySem.Calls PyProof.Rows PyProof.V PySem.Spec
section
variable {prog : Program} {w : World} {A : Around} {E : Value → Shared → Prop} {s : Shared} {z TI TO T i1 i2 : Addr} {fp1 fp2 : List Addr} {n1 n2 i : Nat} {P1 P2 : Nat → Value → Prop} {St1 St2 : Nat → Heap → Prop} {f : Bool} {oT : Obj}
/-- the zip: nothing handed out yet, or a tuple that is held -/
def ZS (h : Heap) (z TI TO i1 i2 S : Addr) (St1 St2 : Nat → Heap → Prop) (i : Nat) : Prop :=
  IsTupOf2 h TI (.ref i1) (.ref i2) ∧ St1 i h ∧ St2 i h ∧ ((IsZip h z TI TO .none ∧ ∃ a b, IsTupOf2 h TO a b) ∨ ∃ T f oT, IsZipHeld h z TI TO T f ∧ h.get? T = some oT ∧ T ≠ z ∧ T ≠ i1 ∧ T ≠ i2 ∧ T ≠ S)
/-- the tuples handed out -/
structure ZG (P1 P2 : Nat → Value → Prop) (lo : Addr) (h : Heap) (as : List Addr) : Prop where
  rise : as.Pairwise (· < ·)
  above : ∀ a ∈ as, lo < a
  pairs : ∀ (j : Nat) (a : Addr), as[j]? = some a → ∃ x1 x2, P1 j x1 ∧ P2 j x2 ∧ IsTupOf2 h a x1 x2
theorem ZG.there {lo : Addr} {h : Heap} {as : List Addr} (g : ZG P1 P2 lo h as) {a : Addr} (ha : a ∈ as) : a < h.objs.size := by
  obtain ⟨j, hj⟩ := List.mem_iff_getElem?.mp ha
  obtain ⟨_, _, _, _, e⟩ := g.pairs j a hj
  exact Heap.lt_size e
theorem ZS.keep {h h' : Heap} {S0 : Addr} (D1 : Draws prog w A i1 fp1 n1 P1 St1) (D2 : Draws prog w A i2 fp2 n2 P2 St2) (st : ZS h z TI TO i1 i2 S0 St1 St2 i) (hz : z ≠ S0) (hTI : TI ≠ S0) (hTO : TO ≠ S0) (h1 : S0 ∉ fp1) (h2 : S0 ∉ fp2) (k : ∀ b o, b ≠ S0 → h.get? b = some o → h'.get? b = some o) : ZS h' z TI TO i1 i2 S0 St1 St2 i := by
  obtain ⟨a, b, c, d⟩ := st
  refine ⟨k _ _ hTI a, D1.frame _ _ _ b fun x hx o e => k x o (fun q => h1 (q ▸ hx)) e, D2.frame _ _ _ c fun x hx o e => k x o (fun q => h2 (q ▸ hx)) e, ?_⟩
  rcases d with ⟨d, u, v, e⟩ | ⟨T, f, oT, d, e, r1, r2, r3, r4⟩
  · exact .inl ⟨k _ _ hz d, u, v, k _ _ hTO e⟩
  · exact .inr ⟨T, f, oT, k _ _ hz d, k _ _ r4 e, r1, r2, r3, r4⟩
variable {R : Result → Shared → Prop} {S0 : Addr} {n : Nat}
end
end Zl
set_option Elab.async false
set_option linter.all false
set_option maxRecDepth 100000
set_option maxHeartbeats 4000000
namespace Mi
open PySem PySem.Spec PyProof.Rows L2 PySem.W
section
variable {X : Cx} {T : Tb} {c : Gh} {W : WX} {a b e : Expr} {f f1 f2 : MM D} {pos p p2 pos2 : Pos} {pins : List (Addr × Obj)} {σ : St}
/-- .. and its mirror -/
def listZip : List D → Res D
  | [.tuple xs, .tuple ys] => .ok (.list (zipD xs ys))
  | _ => .stuck
def listZipE (g : MM (List D)) : MM D := MM.bind g fun ds => lift (listZip ds)
@[simp] theorem listZipE_ap {g : MM (List D)} {ρ : MSt} : listZipE g ρ = Out.bind (g ρ) (fun ds => lift (listZip ds)) := rfl
end
end Mi
set_option Elab.async false
set_option linter.all false
set_option maxRecDepth 100000
set_option maxHeartbeats 1000000
namespace Mi
open PySem L2
section
variable {X : Cx} {T : Tb} {c : Gh} {W : WX}
def sameL : Option D → D → Bool
  | some e, d => eqOk d && (eqOk e && D.eqv d e)
  | none, _ => false
def likeL (k1 k2 : List (D × D)) : Bool := decide (k1.length = k2.length) && k1.all fun p => sameL (valAt k2 p.1) p.2
def dNeL (d e : D) : Res D := match d, e with
  | .dict k1, .dict k2 => if likeL k1 k2 = true then .ok (.bool false) else .stuck
  | _, _ => .stuck
@[simp] theorem dNeL_ap {k1 k2 : List (D × D)} : dNeL (.dict k1) (.dict k2) = if likeL k1 k2 = true then .ok (.bool false) else .stuck := rfl
end
end Mi
set_option Elab.async false
set_option linter.all false
set_option maxRecDepth 100000
set_option maxHeartbeats 1000000
set_option Elab.async false
set_option linter.all false
set_option maxRecDepth 100000
set_option maxHeartbeats 1000000
namespace Mi
open PySem L2
inductive DqP (K : Fg) (G : Wd) : List (V × V) → List (D × D) → Prop
  | nil : DqP K G [] []
  | cons {x y : V} {k v : D} {ps : List (V × V)} {ds : List (D × D)} : Dq K G x k → Dq K G y v → DqP K G ps ds → DqP K G ((x, y) :: ps) ((k, v) :: ds)
abbrev relP (K : Fg) : Wd → List (V × V) → List (D × D) → Prop := fun G vs ds => DqP K G vs ds
def consP (fk fv : MM D) (g : MM (List (D × D))) : MM (List (D × D)) := MM.bind fk fun k => MM.bind fv fun v => MM.bind g fun ps => MM.pure ((k, v) :: ps)
def okKeys (ps : List (D × D)) : Bool := ps.all fun p => (keyOf p.1).isSome
theorem DqP.kvs {K : Fg} {G : Wd} : ∀ {vs : List (V × V)} {ps : List (D × D)}, DqP K G vs ps → okKeys ps = true → ∃ kvs : List (Key × V), vs = kvs.map (fun kv => (kV kv.1, kv.2)) ∧ kvs.length = ps.length ∧ DqKV K G kvs ps
  | _, _, .nil, _ => ⟨[], rfl, rfl, .nil⟩
  | _, _, .cons (k := k) (x := x) (y := y) h1 h2 t, ok => by
    simp only [okKeys, List.all_cons, Bool.and_eq_true] at ok
    obtain ⟨kvs, e, el, r⟩ := DqP.kvs t ok.2
    cases z : keyOf k with
    | none => rw [z] at ok; exact absurd ok.1 (by simp)
    | some k' =>
      have e2 := keyOf_keyD z
      subst e2
      have : x = kV k' := by
        cases k' with
        | inl i => cases h1; rfl
        | inr s => cases h1; rfl
      subst this
      exact ⟨(k', y) :: kvs, by rw [e]; rfl, by simp [el], .cons h2 r⟩
/-- the pairs of a display -/
def PPm (X : Cx) (T : Tb) (W : WX) (pos : Pos) (keys : List (Option Expr)) (values : List Expr) (g : MM (List (D × D))) : Prop :=
  ∃ trs, PPs X pos keys values trs ∧ ∀ c σ H Q, mX X.K T c W (relP X.K) g σ H Q → tPairs trs σ H Q
section
variable {X : Cx} {T : Tb} {c : Gh} {W : WX} {pos : Pos}
theorem mp_nil : PPm X T W pos [] [] (MM.pure []) := ⟨[], pps_nil, fun c σ H Q ⟨G, ρ, j, p⟩ => p [] G H (Le.refl G) j .nil⟩
theorem mp_cons {k v : Expr} {ks : List (Option Expr)} {vs : List Expr} {fk fv : MM D} {g : MM (List (D × D))} (hk : ∀ c, PE X k (mE X.K T c W fk)) (hv : ∀ c, PE X v (mE X.K T c W fv)) (hr : PPm X T W pos ks vs g) : PPm X T W pos (some k :: ks) (v :: vs) (consP fk fv g) := by
  obtain ⟨trs, h1, h2⟩ := hr
  refine ⟨(fun σ H Q => ∃ c, mE X.K T c W fk σ H Q, fun σ H Q => ∃ c, mE X.K T c W fv σ H Q) :: trs, pps_cons ⟨fun pins s σ H Q I ⟨c, q⟩ => (hk c).run pins s σ H Q I q⟩ ⟨fun pins s σ H Q I ⟨c, q⟩ => (hv c).run pins s σ H Q I q⟩ h1, fun c σ H Q ⟨G, ρ, j, p⟩ => ?_⟩
  refine ⟨c, pX_bind j p fun a x ρ1 G1 H1 l1 j1 r1 p1 => ⟨c, pX_bind j1 p1 fun b y ρ2 G2 H2 l2 j2 r2 p2 => h2 c σ H2 _ (pX_bind j2 p2 fun ps qs ρ3 G3 H3 l3 j3 r3 p3 => p3 _ G3 H3 (Le.refl G3) j3 (.cons ((r1.le l2).le l3) (r2.le l3) r3))⟩⟩
/-- what stands behind the pairs -/
theorem disp_core {keys : List (Option Expr)} {values : List Expr} {g : MM (List (D × D))} {te : TE} (h : PPm X T W pos keys values g) (hall : keys.all (·.isSome) = true) (hl : keys.length = values.length) (h0 : keys ≠ []) (h15 : keys.length ≤ 15)
    (k : ∀ σ H Q, te σ H Q → ∃ G ρ, J X.K T c G H σ ρ ∧ match g ρ with
      | .ok ps ρ' => okKeys ps = true ∧ ps.length ≤ 15 ∧ ∀ q G' H' (kvs : List (Key × V)), Le G G' → J X.K T c G' H' σ ρ' → G' q = none → H' q = some (.dK []) → (c.H0 q = none ∨ q ∈ c.M) → q ∉ owns σ ρ' → q ∉ G'.m → DqKV X.K G' kvs ps → Q (.ref q) (upd H' q (.dK (mergeK [] kvs)))
      | .exn e ρ' => ∀ cls dx G' H', Le G G' → J X.K T c G' H' σ ρ' → IsX X.K G'.hp e cls dx → W cls dx σ H'
      | .stuck => False) : PE X (.Dict keys values pos) te := by
  obtain ⟨trs, h1, h2⟩ := h
  refine pe_mono (pe_disp h1 hall hl h0 h15) fun σ H Q ht => fun q hq => ?_
  obtain ⟨G, ρ, j, p⟩ := k σ H Q ht
  have j1 : J X.K T c G (upd H q (.dK [])) σ ρ := j.aside hq
  refine h2 (here c G (upd H q (.dK [])) σ ρ) σ _ _ ⟨G, ρ, j1.here, ?_⟩
  have no : q ∉ owns σ ρ ∧ q ∉ G.m := ⟨j.notOwn hq, j.freshM hq⟩
  have nh := not_here (c := c) (H := upd H q (.dK [])) no
  have hn : (here c G (upd H q (.dK [])) σ ρ).H0 q ≠ none := by show upd H q (.dK []) q ≠ none; rw [upd_same]; exact fun z => by cases z
  cases e : g ρ with
  | stuck => rw [e] at p; exact p.elim
  | exn y ρ' => rw [e] at p; exact fun cls dx G' H' l j' => p cls dx G' H' l (j1.back j')
  | ok ps ρ' =>
    rw [e] at p
    intro vs G' H' l j2 r
    obtain ⟨kvs, ev, el, rk⟩ := r.kvs p.1
    have hq2 : H' q = some (.dK []) := j2.fr q _ upd_same nh (fun _ z => by cases z)
    have gq2 : G' q = none := j2.gn q (j.fresh hq) hn nh
    have nq := j2.apart hn nh no.2
    exact ⟨hq2, kvs, ev, by rw [el]; exact p.2.1, p.2.2 q G' H' kvs l (j1.back j2) gq2 hq2 (j.H0none hq) nq.1 nq.2 rk⟩
def dispE (g : MM (List (D × D))) : MM D := MM.bind g fun ps => if okKeys ps = true ∧ ps.length ≤ 15 then MM.pure (.dict (mergeD [] ps)) else stuck
theorem me_disp {keys : List (Option Expr)} {values : List Expr} {g : MM (List (D × D))} (h : PPm X T W pos keys values g) (hall : keys.all (·.isSome) = true) (hl : keys.length = values.length) (h0 : keys ≠ []) (h15 : keys.length ≤ 15) : PE X (.Dict keys values pos) (mE X.K T c W (dispE g)) := by
  refine pe_mono (pe_lockV (disp_core (c := c) (te := fun σ H Q => ∃ R, mE X.K T c W (dispE g) σ H R ∧ ∀ v H', LockQ R v H' → Q v H') h hall hl h0 h15 fun σ H Q ⟨R, ⟨G, ρ, j, p⟩, k⟩ => ⟨G, ρ, j, ?_⟩)) fun σ H Q q => ⟨Q, q, fun _ _ z => z⟩
  unfold dispE MM.bind at p
  cases e : g ρ with
  | stuck => rw [e] at p; exact p
  | exn y ρ' => rw [e] at p; exact p
  | ok ps ρ' =>
    rw [e] at p
    dsimp only at p
    by_cases z : okKeys ps = true ∧ ps.length ≤ 15
    · rw [if_pos z] at p
      refine ⟨z.1, z.2, fun q G' H' kvs l j' gq hq hc no nm rk => k _ _ (LockQ.new trivial fun od => ?_)⟩
      have j3 := j'.write (o' := .frz od (.dK (mergeK [] kvs))) gq hq (fun _ z => by cases z) (fun _ _ z => by cases z) hc no nm
      have j4 := j3.still gq upd_same hc no nm
      exact p _ _ _ (l.trans (Le.upd gq)) j4 (.dic ⟨_, upd_same⟩ ((DqKV.merge rk .nil).le (Le.upd gq)))
    · rw [if_neg z] at p; exact p.elim
def dispO (g : MM (List (D × D))) : MM S := MM.bind g fun ps => if okKeys ps = true ∧ ps.length ≤ 15 then MM.pure (.od (mergeD [] ps)) else stuck
end
section
variable {fk fv : MM D} {g : MM (List (D × D))} {ρ : MSt}
def consPJ (k : D) (g : MM (List (D × D))) (o : Out D) : Out (List (D × D)) := Out.bind o fun v => MM.bind g fun ps => MM.pure ((k, v) :: ps)
def consPK (fv : MM D) (g : MM (List (D × D))) (o : Out D) : Out (List (D × D)) := Out.bind o fun k ρ => consPJ k g (fv ρ)
def consPL (k v : D) (o : Out (List (D × D))) : Out (List (D × D)) := Out.bind o fun ps => MM.pure ((k, v) :: ps)
@[simp] theorem consP_ap : consP fk fv g ρ = consPK fv g (fk ρ) := by
  unfold consP consPK consPJ MM.bind Out.bind
  cases fk ρ <;> rfl
@[simp] theorem consPK_ok {k : D} : consPK fv g (.ok k ρ) = consPJ k g (fv ρ) := rfl
@[simp] theorem consPJ_ok {k v : D} : consPJ k g (.ok v ρ) = consPL k v (g ρ) := rfl
@[simp] theorem consPL_ok {k v : D} {ps : List (D × D)} : consPL k v (.ok ps ρ) = .ok ((k, v) :: ps) ρ := rfl
def dispK (o : Out (List (D × D))) : Out D := Out.bind o fun ps => if okKeys ps = true ∧ ps.length ≤ 15 then MM.pure (.dict (mergeD [] ps)) else stuck
@[simp] theorem dispE_ap : dispE g ρ = dispK (g ρ) := rfl
@[simp] theorem dispK_1 {u : Str} {v : D} : dispK (.ok [(.str u, v)] ρ) = .ok (.dict [(.str u, v)]) ρ := rfl
@[simp] theorem dispK_1i {i : Int} {v : D} : dispK (.ok [(.int i, v)] ρ) = .ok (.dict [(.int i, v)]) ρ := rfl
def dispOK (o : Out (List (D × D))) : Out S := Out.bind o fun ps => if okKeys ps = true ∧ ps.length ≤ 15 then MM.pure (.od (mergeD [] ps)) else stuck
@[simp] theorem dispO_ap : dispO g ρ = dispOK (g ρ) := rfl
@[simp] theorem dispOK_1 {u : Str} {v : D} : dispOK (.ok [(.str u, v)] ρ) = .ok (.od [(.str u, v)]) ρ := rfl
end
end Mi
set_option Elab.async false
set_option linter.all false
set_option maxRecDepth 100000
set_option maxHeartbeats 1000000
namespace Mi
open PySem L2
section
variable {X : Cx} {T : Tb} {c : Gh} {W : WX} {e o : Expr} {f fo fk : MM D} {pos p apos cpos : Pos}
def dropD (kvs : List (D × D)) (k : D) : List (D × D) := kvs.filter fun p => !D.eqv p.1 k
theorem DqKV.drop {K : Fg} {G : Wd} {k : Key} : ∀ {es : List (Key × V)} {kvs : List (D × D)}, DqKV K G es kvs → DqKV K G (dropK es k) (dropD kvs (keyD k))
  | _, _, .nil => .nil
  | _, _, .cons (k := k') h t => by
    have ih := DqKV.drop (k := k) t
    unfold dropK dropD at *
    rw [List.filter_cons, List.filter_cons]
    simp only [eqv_key]
    by_cases z : k' = k
    · rw [if_neg (by simp [z]), if_neg (by simp [z])]; exact ih
    · rw [if_pos (by simp [z]), if_pos (by simp [z])]; exact .cons h ih
def popK (d k : D) : MM D := fun ρ => match stoOf ρ, cellAt ρ d with
  | some (true, μ), some (n, .dic kvs) => (match keyOf k with
    | some _ => (match valAt kvs k with
      | some v => .ok v (setSto ρ (μ.set n (.dic (dropD kvs k))))
      | none => .stuck)
    | none => .stuck)
  | _, _ => .stuck
def isDicC (ρ : MSt) (d : D) : Bool := match cellAt ρ d with
  | some (_, .dic _) => true
  | _ => false
def popC (fo fk : MM D) : MM D := MM.bind fo fun d ρ => if isDicC ρ d = true then MM.bind fk (fun k => popK d k) ρ else .stuck
end
end Mi
set_option Elab.async false
set_option linter.all false
set_option maxRecDepth 100000
set_option maxHeartbeats 1000000
namespace Mi
open PySem L2
/-- o.m(e) on a text -/
def meth1 (g : D → D → Res D) (fo fe : MM D) : MM D := MM.bind fo fun x ρ => if isStr x = true then MM.bind fe (fun y => lift (g x y)) ρ else .stuck
section
variable {X : Cx} {T : Tb} {c : Gh} {W : WX} {e o a b : Expr} {f fo fe f1 f2 : MM D} {pos p apos cpos : Pos}
def fmtD : D → Res D
  | .str y => if y.length ≤ sizeLine then .ok (.str y) else .stuck
  | .int i => if i.natAbs.log2 < 1920 then .ok (.str (toString i)) else .stuck
  | _ => .stuck
def fmtE (f : MM D) : MM D := MM.bind f fun x => lift (fmtD x)
def jsC (acc : Str) : D → Res Str
  | .str y => if (acc ++ y).length ≤ sizeLine then .ok (acc ++ y) else .stuck
  | _ => .stuck
def jsE : List (MM D) → Str → MM Str
  | [], acc => MM.pure acc
  | f :: fs, acc => MM.bind f fun x => MM.bind (lift (jsC acc x)) fun out => jsE fs out
def joinedE (fs : List (MM D)) : MM D := MM.bind (jsE fs Str.empty) fun out => MM.pure (.str out)
end
section
variable {f fo fe : MM D} {g : D → D → Res D} {ρ : MSt}
def methJ (g : D → D → Res D) (x : D) (o : Out D) : Out D := Out.bind o fun y => lift (g x y)
def methK (g : D → D → Res D) (fe : MM D) (o : Out D) : Out D := Out.bind o fun x ρ => if isStr x = true then methJ g x (fe ρ) else .stuck
@[simp] theorem meth1_ap : meth1 g fo fe ρ = methK g fe (fo ρ) := by
  unfold meth1 methK methJ MM.bind Out.bind
  cases fo ρ <;> rfl
@[simp] theorem methK_ok {u : Str} : methK g fe (.ok (.str u) ρ) = methJ g (.str u) (fe ρ) := rfl
@[simp] theorem methJ_ok {x y : D} : methJ g x (.ok y ρ) = lift (g x y) ρ := rfl
def fmtK (o : Out D) : Out D := Out.bind o fun x => lift (fmtD x)
@[simp] theorem fmtE_ap : fmtE f ρ = fmtK (f ρ) := rfl
@[simp] theorem fmtK_ok {x : D} : fmtK (.ok x ρ) = lift (fmtD x) ρ := rfl
def joinedK (o : Out Str) : Out D := Out.bind o fun out => MM.pure (.str out)
@[simp] theorem joinedE_ap {fs : List (MM D)} : joinedE fs ρ = joinedK (jsE fs Str.empty ρ) := rfl
@[simp] theorem joinedK_ok {u : Str} : joinedK (.ok u ρ) = .ok (.str u) ρ := rfl
@[simp] theorem jsE_nil {acc : Str} : jsE [] acc ρ = .ok acc ρ := rfl
def jsK (fs : List (MM D)) (acc : Str) (o : Out D) : Out Str := Out.bind o fun x => MM.bind (lift (jsC acc x)) fun out => jsE fs out
@[simp] theorem jsE_cons {fs : List (MM D)} {acc : Str} : jsE (f :: fs) acc ρ = jsK fs acc (f ρ) := rfl
end
end Mi
set_option Elab.async false
set_option linter.all false
set_option maxRecDepth 100000
set_option maxHeartbeats 4000000
set_option Elab.async false
set_option linter.all false
set_option maxHeartbeats 1000000
set_option Elab.async false
set_option linter.all false
set_option maxRecDepth 100000
set_option maxHeartbeats 1000000
namespace Mi
open PySem L2
theorem leD_eq (a b : D) : leD a b = !PySem.W.dataLt b.py a.py := rfl
theorem leD_trans (a b c : D) (h1 : leD a b = true) (h2 : leD b c = true) : leD a c = true := by
  rw [leD_eq] at *
  simp only [Bool.not_eq_true'] at *
  cases z : PySem.W.dataLt c.py a.py with
  | false => rfl
  | true =>
    have : PySem.W.dataLt c.py b.py = true ∨ PySem.W.dataLt b.py a.py = true := PyProof.Rows.lex_negTrans _ _ _ z
    rcases this with q | q
    · rw [h2] at q; cases q
    · rw [h1] at q; cases q
theorem leD_total (a b : D) : (leD a b || leD b a) = true := by
  rw [leD_eq, leD_eq]
  cases z : PySem.W.dataLt b.py a.py with
  | false => rfl
  | true =>
    cases y : PySem.W.dataLt a.py b.py with
    | false => rfl
    | true =>
      have t : PySem.W.dataLt a.py a.py = true := PyProof.Rows.lex_trans _ _ _ y z
      have i : PySem.W.dataLt a.py a.py = false := PyProof.Rows.lex_irrefl _
      rw [i] at t; cases t
theorem pw_tri {α : Type} {R : α → α → Prop} : ∀ {l : List α}, l.Pairwise R → ∀ {a b : α}, a ∈ l → b ∈ l → a = b ∨ R a b ∨ R b a
  | [], _, a, _, h, _ => by cases h
  | x :: l, p, a, b, ha, hb => by
    rw [List.pairwise_cons] at p
    rcases List.mem_cons.mp ha with ea | ma
    · rcases List.mem_cons.mp hb with eb | mb
      · exact .inl (ea.trans eb.symm)
      · exact .inr (.inl (by rw [ea]; exact p.1 b mb))
    · rcases List.mem_cons.mp hb with eb | mb
      · exact .inr (.inr (by rw [eb]; exact p.1 a ma))
      · exact pw_tri p.2 ma mb
theorem sort_perm_eq {l s : List D} (p : s.Perm l) (hs : s.Pairwise fun a b => leD b a = false) : sortL l = s := by
  have q : (sortL l).Perm l := List.mergeSort_perm ..
  have so : (sortL l).Pairwise fun a b => leD a b = true := List.pairwise_mergeSort leD_trans leD_total l
  have hs' : s.Pairwise fun a b => leD a b = true := hs.imp fun {a b} h => by
    have := leD_total a b
    rw [h] at this
    simpa using this
  refine List.Perm.eq_of_pairwise (le := fun a b => leD a b = true) (fun a b ha hb h1 h2 => ?_) so hs' (q.trans p.symm)
  have ma : a ∈ s := p.mem_iff.mpr (q.mem_iff.mp ha)
  rcases pw_tri hs ma hb with e | e | e
  · exact e
  · rw [e] at h2; cases h2
  · rw [e] at h1; cases h1
theorem sortOk_of {α : Type} {enc : α → D} (l : List α) (al : ∀ a b, PySem.W.alike (enc a).py (enc b).py = true) (hs : sortB (l.map enc) = true) (nd : ∀ a, noDict (enc a) = true) (dp : ∀ a, (enc a).depth ≤ 60) : sortOk (l.map enc) = true := by
  have h1 : alikeB (l.map enc) = true := by
    unfold alikeB
    rw [List.all_map]
    refine List.all_eq_true.mpr fun x _ => ?_
    show ((l.map enc).all fun d' => PySem.W.alike (enc x).py d'.py) = true
    rw [List.all_map]
    exact List.all_eq_true.mpr fun y _ => al x y
  have h3 : ∀ l : List α, noDicts (l.map enc) = true := fun l => by
    induction l with
    | nil => rfl
    | cons x xs ih => rw [List.map_cons, noDicts, ih, nd]; rfl
  have h4 : ((l.map enc).all fun d => decide (d.depth ≤ 60)) = true := by
    rw [List.all_map]
    exact List.all_eq_true.mpr fun x _ => by show decide ((enc x).depth ≤ 60) = true; exact decide_eq_true (dp x)
  unfold sortOk
  rw [h1, hs, h3, h4]; rfl
end Mi
set_option Elab.async false
set_option linter.all false
set_option maxRecDepth 100000
set_option maxHeartbeats 1000000
namespace Mi
open PySem L2
section
variable {X : Cx} {T : Tb} {c : Gh} {W : WX} {pos : Pos}
/-- d[k], e[l] = v, w of owned dicts -/
def put1 (i : Nat) (v : D) (fk : MM D) (next : MM Fl) : MM Fl := fun ρ => match ρ[i]? with
  | some (some (.od _)) => MM.bind fk (fun k ρ' => match ρ'[i]?, keyOf k with
    | some (some (.od kvs)), some _ => if kvs.length < sizeLine then next (ρ'.set i (some (.od (putD kvs k v)))) else .stuck
    | _, _ => .stuck) ρ
  | _ => .stuck
def put2K (i j : Nat) (fk1 fk2 : MM D) : List D → MM Fl
  | [a, b] => put1 i a fk1 (put1 j b fk2 (MM.pure .nx))
  | _ => stuck
def put2S (i j : Nat) (fk1 fk2 : MM D) (g : MM (List D)) : MM Fl := MM.bind g (put2K i j fk1 fk2)
def tDSet : TSet := fun o k v H Q => ∃ a H', o = .ref a ∧ DPut H a k v H' ∧ Q H'
theorem pset_d (hu : X.A.units + 1 < cLine) : PSet X tDSet := fun pins s σ H o k v ov iv u Q I ro rk rv ⟨a, H', e, g, q⟩ => by
  subst e
  obtain rfl : ov = Value.ref a := ro
  exact d_setItem hu I g rk rv fun s' I' => ⟨H', I', q⟩
theorem put1_to {i : Nat} {fk : MM D} {next : MM Fl} {Dn : Ends} {G : Wd} {H : Hp} {σ : St} {ρ : MSt} {v : V} {d : D} {Q : St → Hp → Prop} (j : J X.K T c G H σ ρ) (rv : Dq X.K G v d) (p : pS X.K T c W Dn G (put1 i d fk next ρ)) (hq : ∀ ρ' G' H', pS X.K T c W Dn G' (next ρ') → Le G G' → J X.K T c G' H' σ ρ' → Q σ H') : gSub (tVar i) (mE X.K T c W fk) tDSet v σ H Q := by
  unfold put1 at p
  split at p
  · rename_i kvs hx
    obtain ⟨v0, e1, al, vs, rfl, g, hh, r⟩ := j.sl i _ hx
    refine ⟨_, e1, ?_⟩
    refine pS_bind j p fun k y ρ2 G2 H2 l2 j2 r2 p2 => ?_
    split at p2
    · rename_i kvs2 key hy hkey
      by_cases hz : kvs2.length < sizeLine
      · rw [if_pos hz] at p2
        obtain ⟨v2, e2, bl, ws, rfl, g2, hh2, r3⟩ := j2.sl i _ hy
        rw [e1] at e2
        cases e2
        have ek := keyOf_keyD hkey
        subst ek
        have ev := dq_key r2
        subst ev
        refine ⟨_, _, rfl, DPut.k hh2 (by rw [r3.length]; exact hz), hq _ G2 _ p2 l2 ?_⟩
        exact j2.upOwn hy rfl e1 rfl ⟨_, _, rfl, g2, upd_same, r3.put (rv.le l2)⟩
      · rw [if_neg hz] at p2; exact p2.elim
    · exact p2.elim
  · exact p.elim
theorem ms_put2 {i j : Nat} {x y : Str} {xp yp pos1 pos2 pt pt2 : Pos} {kt k2} {e1 e2 a b : Expr} {fk1 fk2 : MM D} {g : MM (List D)} (hu : X.A.units + 1 < cLine) (hc : X.calm = true) (hN : X.N[i]? = some x) (hv : Vis X.env.scope x) (hM : X.N[j]? = some y) (hw' : Vis X.env.scope y) (hk1 : PE X e1 (mE X.K T c W fk1)) (hk2 : PE X e2 (mE X.K T c W fk2)) (ha : PA X [a, b] (mA X.K T c W g))
    (hs : swapsWithSole [.Tuple [.Subscript (.Name x xp) e1 pos1, .Subscript (.Name y yp) e2 pos2] kt pt] (.Tuple [a, b] k2 pt2) pos.line X.env = pure false := by rfl) (hw : swappedStores [.Tuple [.Subscript (.Name x xp) e1 pos1, .Subscript (.Name y yp) e2 pos2] kt pt] (.Tuple [a, b] k2 pt2) X.env = pure none := by rfl)
    (h1 : (assignEach [.Tuple [.Subscript (.Name x xp) e1 pos1, .Subscript (.Name y yp) e2 pos2] kt pt] X.env).map (·.2) = [assign (.Tuple [.Subscript (.Name x xp) e1 pos1, .Subscript (.Name y yp) e2 pos2] kt pt) X.env] := by rfl)
    (hs1 : (assignEach [.Subscript (.Name x xp) e1 pos1, .Subscript (.Name y yp) e2 pos2] X.env).map (·.2) = assign (.Subscript (.Name x xp) e1 pos1) X.env :: (assignEach [.Subscript (.Name y yp) e2 pos2] X.env).map (·.2) := by rfl)
    (hs2 : (assignEach [.Subscript (.Name y yp) e2 pos2] X.env).map (·.2) = assign (.Subscript (.Name y yp) e2 pos2) X.env :: (assignEach [] X.env).map (·.2) := by rfl)
    (hd : (x == ("__debug__" : Str)) = false := by decide) (hcd : (x == ("__classdict__" : Str)) = false := by decide) (hd2 : (y == ("__debug__" : Str)) = false := by decide) (hcd2 : (y == ("__classdict__" : Str)) = false := by decide)
    (q1 : ∀ v, assign (.Subscript (.Name x xp) e1 pos1) X.env v = (do
      let ov ← holding [v] (eval (.Name x xp) X.env)
      let iv ← holding [v, ov] (eval e1 X.env)
      standAt pos1
      holding [v, ov, iv] (setItem ov iv v)
      release [v, ov, iv] []) := by intro _; rfl) (q2 : ∀ v, assign (.Subscript (.Name y yp) e2 pos2) X.env v = (do
      let ov ← holding [v] (eval (.Name y yp) X.env)
      let iv ← holding [v, ov] (eval e2 X.env)
      standAt pos2
      holding [v, ov, iv] (setItem ov iv v)
      release [v, ov, iv] []) := by intro _; rfl)
    (hn : (assignEach [.Subscript (.Name x xp) e1 pos1, .Subscript (.Name y yp) e2 pos2] X.env).length = 2 := by rfl) (hst : (assignEach [.Subscript (.Name x xp) e1 pos1, .Subscript (.Name y yp) e2 pos2] X.env).findIdx? (·.1) = none := by rfl) :
    PS X (.Assign [.Tuple [.Subscript (.Name x xp) e1 pos1, .Subscript (.Name y yp) e2 pos2] kt pt] (.Tuple [a, b] k2 pt2) pos) (mS X.K T c W (put2S i j fk1 fk2 g)) := by
  have G1 := pg_sub (pos := pos1) (pe_var (i := i) (pos := xp) hN hv hd hcd) hk1 (pset_d hu) q1
  have G2 := pg_sub (pos := pos2) (pe_var (i := j) (pos := yp) hM hw' hd2 hcd2) hk2 (pset_d hu) q2
  refine ps_mono (ps_asg (pe_tupF ha) (pg_tup hc (pgs_cons G1 (pgs_cons G2 pgs_nil hs2) hs1) hn hst) hs hw h1) fun Dn σ H ⟨G, ρ, jj, p⟩ => ?_
  refine pS_bind jj p fun ds vs ρ1 G1 H1 l1 j1 r1 p1 => ?_
  unfold put2K at p1
  split at p1
  · rename_i da db
    have hlen : vs.length = 2 := by rw [r1.length]; rfl
    refine ⟨by rw [hlen]; decide, fun q o hq ho => ?_⟩
    have j2 := j1.grow (o := .frz o (.tup vs)) hq
    have l2 : Le G1 (wupd G1 q (.frz o (.tup vs))) := Le.upd (j1.fresh hq)
    have p2 := pS.le l2 p1
    have r2 := r1.le l2
    cases r2 with
    | cons ra rr =>
      cases rr with
      | cons rb rn =>
        cases rn
        refine ⟨q, _, rfl, sqT_sub (TupAt.sq (.inl ⟨o, upd_same, ho⟩)) j2.subH, rfl, _, _, rfl, ?_⟩
        refine put1_to j2 ra p2 fun ρ3 G3 H3 p3 l3 j3 => ⟨_, _, rfl, ?_⟩
        refine put1_to j3 (rb.le l3) p3 fun ρ4 G4 H4 p4 l4 j4 => ⟨rfl, ?_⟩
        exact p4 _ _ _ (Le.refl _) j4
  · exact p1.elim
/-- a new dict of pairs, owned -/
def mkOD : List D → Res S
  | [.list ds] => (match toPairs ds with | some ms => .ok (.od (mergeD [] ms)) | none => .stuck)
  | _ => .stuck
theorem mo_dict {e : Expr} {p : Pos} {g : MM (List D)} (hc : X.calm = true) (hg : Gl X "dict") (hm : X.mg "dict" = none) (ha : PA X [e] (mA X.K T c W g)) (hn : ("dict" : Str) ≠ "__name__" := by decide) (hdb : (("dict" : Str) == ("__debug__" : Str)) = false := by decide)
    (he : starEach [e] X.env = (false, eval e X.env) :: starEach [] X.env := by rfl) (hpl : (backTo pos (starEach [] X.env)).any (·.1) = false := by rfl) : PE X (.Call (.Name "dict" p) [e] [] pos) (mO X.K T c W (MM.bind g fun ds => lift (mkOD ds))) := by
  refine pe_mono (pe_callTy (call_dictP hc) hg hm bt_dict ha hn hdb he hpl) fun σ H Q ⟨G, ρ, j, p⟩ => ?_
  refine pO_bind j p fun ds vs ρ1 G1 H1 l1 j1 r1 p1 => ?_
  unfold mkOD at p1
  split at p1
  · rename_i es
    cases z : toPairs es with
    | none => rw [z] at p1; exact p1.elim
    | some ms =>
      rw [z] at p1
      cases r1 with
      | cons d rr =>
        cases rr
        cases d with
        | lst h1 h2 =>
          obtain ⟨ps, kvs, rfl, q2, q3⟩ := pairs_at j1.sub h2 z
          refine ⟨_, ps, kvs, rfl, sqL_sub (.inl h1) j1.subH, q2, fun q hq => ?_⟩
          exact p1 q G1 _ (Le.refl G1) (j1.aside hq) rfl ⟨q, _, rfl, j1.fresh hq, upd_same, DqKV.merge q3 .nil⟩ (j1.H0none hq) ⟨j1.notOwn hq, j1.freshM hq⟩
  · exact p1.elim
end
end Mi
set_option Elab.async false
set_option linter.all false
set_option maxRecDepth 100000
set_option maxHeartbeats 1000000
set_option Elab.async false
set_option linter.all false
set_option maxRecDepth 100000
set_option maxHeartbeats 1000000
set_option Elab.async false
set_option linter.all false
set_option maxRecDepth 100000
set_option maxHeartbeats 1000000
set_option Elab.async false
set_option linter.all false
set_option maxRecDepth 100000
set_option maxHeartbeats 1000000
namespace Mi
open PySem L2
section
variable {X : Cx} {T : Tb} {c : Gh} {W : WX}
def iterM (f : MM D) : MM (List D) := MM.bind f fun x ρ => match cellAt ρ x with
  | some (_, .dlk kvs) => .ok (keysD kvs) ρ
  | _ => lift (iterAll x) ρ
variable {e tg : Expr} {f : MM D}
end
end Mi
set_option Elab.async false
set_option linter.all false
set_option maxRecDepth 100000
set_option maxHeartbeats 1000000
namespace Mi
open PySem L2
def cellOf : S → Option Cell
  | .ol xs => some (.lst xs)
  | .od kvs => some (.dic kvs)
  | _ => none
/-- a new object becomes a cell -/
def cellK (s : S) : MM D := fun ρ => match cellOf s, stoOf ρ with
  | some u, some (true, μ) => .ok (.loc μ.length) (setSto ρ (μ ++ [u]))
  | _, _ => .stuck
def cellE (fo : MM S) : MM D := MM.bind fo cellK
/-- an owned object becomes a cell -/
def celS (i : Nat) (ρ : MSt) : MSt := match ρ[i]?, stoOf ρ with
  | some (some s), some (true, μ) => (match cellOf s with
    | some u => (setSto ρ (μ ++ [u])).set i (some (.d (.loc μ.length)))
    | none => ρ)
  | _, _ => ρ
section
variable {X : Cx} {T : Tb} {c : Gh} {W : WX} {a b e o value : Expr} {es : List Expr} {f f1 f2 fo fv fk : MM D} {g : MM (List D)} {pos pos' p apos cpos : Pos}
def isLstC (ρ : MSt) (d : D) : Bool := match cellAt ρ d with
  | some (_, .lst _) => true
  | _ => false
def appCK (d v : D) : MM D := fun ρ => match stoOf ρ, cellAt ρ d with
  | some (true, μ), some (n, .lst xs) => if xs.length < sizeLine then .ok .none (setSto ρ (μ.set n (.lst (xs ++ [v])))) else .stuck
  | _, _ => .stuck
def appC (fo fv : MM D) : MM D := MM.bind fo fun d ρ => if isLstC ρ d = true then MM.bind fv (fun v => appCK d v) ρ else .stuck
theorem DqAll.dropLast {K : Fg} {G : Wd} {vs : List V} {ds : List D} (h : DqAll K G vs ds) : DqAll K G vs.dropLast ds.dropLast := by
  rw [List.dropLast_eq_take, List.dropLast_eq_take, h.length]; exact h.take _
def popLK (d : D) : MM D := fun ρ => match stoOf ρ, cellAt ρ d with
  | some (true, μ), some (n, .lst xs) => (match xs[xs.length - 1]? with
    | some v => .ok v (setSto ρ (μ.set n (.lst xs.dropLast)))
    | none => .stuck)
  | _, _ => .stuck
def popLC (fo : MM D) : MM D := MM.bind fo popLK
def kvOf (ρ : MSt) : D → Option (List (D × D))
  | .dict kvs => some kvs
  | d => match cellAt ρ d with
    | some (_, u) => dicOf u
    | none => none
def sortK (d : D) : MM D := fun ρ => match kvOf ρ d with
  | some kvs => (match allStr kvs with
    | some ks => if ks.length < 64 then .ok (.list (sortL (ks.map .str))) ρ else .stuck
    | none => .stuck)
  | none => .stuck
def sortC (g : MM (List D)) : MM D := MM.bind g fun ds => match ds with
  | [d] => sortK d
  | _ => stuck
def copyK (d : D) : MM S := fun ρ => match kvOf ρ d with
  | some kvs => .ok (.od kvs) ρ
  | none => .stuck
def copyO (g : MM (List D)) : MM S := MM.bind g fun ds => match ds with
  | [d] => copyK d
  | _ => fun _ => .stuck
end
end Mi
set_option Elab.async false
set_option linter.all false
set_option maxRecDepth 100000
set_option maxHeartbeats 1000000
namespace Mi
open PySem PySem.Spec PyProof.Rows L2
section
variable {X : Cx} {T : Tb} {c : Gh} {W : WX} {a b e o value tg : Expr} {es elts : List Expr} {f f1 f2 fo fv fk : MM D} {g : MM (List D)} {pos pos' p apos cpos tpos : Pos} {kk : Nat}
def updS (i : Nat) (f : MM D) : MM Fl := fun ρ => match ρ[i]? with
  | some (some (.od _)) => MM.bind f (fun d ρ' => match ρ'[i]?, d with
    | some (some (.od kvs)), .dict ms => if kvs.length + ms.length ≤ sizeLine then .ok .nx (ρ'.set i (some (.od (mergeD kvs ms)))) else .stuck
    | _, _ => .stuck) ρ
  | _ => .stuck
def pairsD (kvs : List (D × D)) : List D := kvs.map fun kv => .tuple [kv.1, kv.2]
def iterI (f : MM D) : MM (List D) := MM.bind f fun x ρ => match cellAt ρ x with
  | some (_, .dlk kvs) => .ok (pairsD kvs) ρ
  | _ => .stuck
def pF (K : Fg) (T : Tb) (c : Gh) (W : WX) (σ : St) (G : Wd) (Q : St → Hp → Prop) : Out Fl → Prop
  | .ok .nx ρ' => ∀ G' H', Le G G' → J K T c G' H' σ ρ' → Q σ H'
  | .exn e ρ' => ∀ cls dx G' H', Le G G' → J K T c G' H' σ ρ' → IsX K G'.hp e cls dx → W cls dx σ H'
  | _ => False
theorem pF.le {K : Fg} {T : Tb} {c : Gh} {σ : St} {G G1 : Wd} {Q : St → Hp → Prop} {o : Out Fl} (l : Le G G1) (h : pF K T c W σ G Q o) : pF K T c W σ G1 Q o := by
  cases o with
  | ok a ρ' => cases a <;> first | exact fun G' H' l' => h G' H' (l.trans l') | exact h
  | exn e ρ' => exact fun cls dx G' H' l' => h cls dx G' H' (l.trans l')
  | stuck => exact h
end
end Mi
set_option Elab.async false
set_option linter.all false
set_option maxRecDepth 100000
set_option maxHeartbeats 1000000
set_option Elab.async false
set_option linter.all false
set_option maxRecDepth 100000
set_option maxHeartbeats 1000000
namespace Mi
open PySem PySem.Spec PyProof.Rows L2
/-- names frozen, or made cells, one after another -/
def frzM (i : Nat) (m : MM Fl) : MM Fl := fun ρ => m (frzS i ρ)
def celM (i : Nat) (m : MM Fl) : MM Fl := fun ρ => m (celS i ρ)
@[simp] theorem frzM_ap {i : Nat} {m : MM Fl} {ρ : MSt} : frzM i m ρ = m (frzS i ρ) := rfl
@[simp] theorem celM_ap {i : Nat} {m : MM Fl} {ρ : MSt} : celM i m ρ = m (celS i ρ) := rfl
section
variable {X : Cx} {T : Tb} {c : Gh} {W : WX}
theorem ms_frzM {sts : List Stmt} {s : MM Fl} (i : Nat) (h : PSs X sts (mS X.K T c W s)) : PSs X sts (mS X.K T c W (frzM i s)) := ms_freeze i h
end
/-- the place of a cell, for a lock -/
def pickE (m : MM D) (ρ : MSt) : Option Nat := match m ρ with
  | .ok (.loc n) _ => some n
  | _ => none
end Mi
set_option Elab.async false
set_option linter.all false
set_option maxRecDepth 100000
set_option maxHeartbeats 1000000
namespace Mi
open PySem L2
section
variable {ρ : MSt} {μ μ' : Sto} {b neg : Bool} {n i : Nat} {x y : Option S} {f f1 f2 fo fv fk : MM D} {g : MM (List D)} {C m fx : Str} {d e v k : D} {ds xs : List D} {kvs : List (D × D)} {fs : List (Str × D)} {fm : Sto → List D → SRes} {fo' : MM S} {s : S}
@[simp] theorem stoOf_one : stoOf [some (.sto b μ)] = some (b, μ) := rfl
@[simp] theorem stoOf_cons : stoOf (x :: y :: ρ) = stoOf (y :: ρ) := by unfold stoOf; simp
@[simp] theorem setSto_one : setSto [x] μ = [some (.sto true μ)] := rfl
@[simp] theorem setSto_cons : setSto (x :: y :: ρ) μ = x :: setSto (y :: ρ) μ := by unfold setSto; simp
def cellL : Option (Bool × Sto) → Nat → Option (Nat × Cell)
  | some (_, μ), n => (μ[n]?).map fun u => (n, u)
  | none, _ => none
@[simp] theorem cellAt_loc : cellAt ρ (.loc n) = cellL (stoOf ρ) n := by
  unfold cellAt cellL
  cases stoOf ρ <;> rfl
@[simp] theorem cellL_some : cellL (some (b, μ)) n = (μ[n]?).map fun u => (n, u) := rfl
@[simp] theorem cellAt_none : cellAt ρ .none = none := rfl
@[simp] theorem cellAt_bool : cellAt ρ (.bool b) = none := rfl
@[simp] theorem cellAt_int {i : Int} : cellAt ρ (.int i) = none := rfl
@[simp] theorem cellAt_str {s : Str} : cellAt ρ (.str s) = none := rfl
@[simp] theorem cellAt_list : cellAt ρ (.list xs) = none := rfl
@[simp] theorem cellAt_tuple : cellAt ρ (.tuple xs) = none := rfl
@[simp] theorem cellAt_dict : cellAt ρ (.dict kvs) = none := rfl
def attrV (ρ : MSt) : Option D → Out D
  | some v => .ok v ρ
  | none => .stuck
def attrR (C x : Str) (ρ : MSt) : Option (Nat × Cell) → Out D
  | some (_, .obj C' fs) => if C' = C then attrV ρ (fs.lookup x) else .stuck
  | _ => .stuck
def attrJ (C x : Str) (o : Out D) : Out D := Out.bind o (attrK C x)
@[simp] theorem attrE_ap : attrE C fx f ρ = attrJ C fx (f ρ) := rfl
@[simp] theorem attrJ_ok : attrJ C fx (.ok d ρ) = attrR C fx ρ (cellAt ρ d) := by
  show attrK C fx d ρ = _
  unfold attrK attrR
  split
  · rename_i n C' fs hc
    try rw [hc]
    try dsimp only
    all_goals (cases fs.lookup fx <;> rfl)
  · rename_i h
    first
    | rfl
    | (split
       · rename_i n C' fs hc
         exact absurd hc (h _ _ _)
       · rfl)
@[simp] theorem attrR_obj : attrR C fx ρ (some (n, .obj C fs)) = attrV ρ (fs.lookup fx) := by unfold attrR; simp
@[simp] theorem attrV_some : attrV ρ (some v) = .ok v ρ := rfl
def fldR (C x : Str) (v : D) (ρ : MSt) : Option (Bool × Sto) → Option (Nat × Cell) → Out Fl
  | some (true, μ), some (n, .obj C' fs) => if C' = C ∧ fs.length < 1000 then .ok .nx (setSto ρ (μ.set n (.obj C (putFD x v fs)))) else .stuck
  | _, _ => .stuck
def fldJ (C x : Str) (fo : MM D) (o : Out D) : Out Fl := Out.bind o fun v => MM.bind fo (fldK C x v)
def fldI (C x : Str) (v : D) (o : Out D) : Out Fl := Out.bind o (fldK C x v)
@[simp] theorem fldS_ap : fldS C fx fv fo ρ = fldJ C fx fo (fv ρ) := rfl
@[simp] theorem fldJ_ok : fldJ C fx fo (.ok v ρ) = fldI C fx v (fo ρ) := rfl
@[simp] theorem fldI_ok : fldI C fx v (.ok d ρ) = fldR C fx v ρ (stoOf ρ) (cellAt ρ d) := by
  show fldK C fx v d ρ = _
  unfold fldK fldR
  split <;> simp_all
@[simp] theorem fldR_obj : fldR C fx v ρ (some (true, μ)) (some (n, .obj C fs)) = if fs.length < 1000 then .ok .nx (setSto ρ (μ.set n (.obj C (putFD fx v fs)))) else .stuck := by unfold fldR; simp
def op2MK (g : D → D → MM D) (f2 : MM D) (o : Out D) : Out D := Out.bind o fun x => MM.bind f2 fun y => g x y
def op2ML (g : D → D → MM D) (x : D) (o : Out D) : Out D := Out.bind o fun y => g x y
variable {gm : D → D → MM D}
@[simp] theorem op2M_ap : op2M gm f1 f2 ρ = op2MK gm f2 (f1 ρ) := rfl
@[simp] theorem op2MK_ok : op2MK gm f2 (.ok d ρ) = op2ML gm d (f2 ρ) := rfl
@[simp] theorem op2ML_ok : op2ML gm d (.ok e ρ) = gm d e ρ := rfl
@[simp] theorem opTM_ap : opTM gm f1 f2 ρ = tstK (op2M gm f1 f2 ρ) := rfl
def ixR (x y : D) (ρ : MSt) : Option (Nat × Cell) → Out D
  | some (_, u) => attrV ρ (ixC u y)
  | none => lift (dIx x y) ρ
@[simp] theorem ixM_ap : ixM d e ρ = ixR d e ρ (cellAt ρ d) := by
  unfold ixM ixR
  cases cellAt ρ d with
  | none => rfl
  | some q => obtain ⟨n, u⟩ := q; dsimp only; cases ixC u e <;> rfl
@[simp] theorem ixR_none : ixR d e ρ none = lift (dIx d e) ρ := rfl
@[simp] theorem ixR_some {u : Cell} : ixR d e ρ (some (n, u)) = attrV ρ (ixC u e) := rfl
@[simp] theorem ixC_dic {s : Str} : ixC (.dic kvs) (.str s) = valAt kvs (.str s) := rfl
@[simp] theorem ixC_dlk {s : Str} : ixC (.dlk kvs) (.str s) = valAt kvs (.str s) := rfl
def inR (neg : Bool) (x y : D) (ρ : MSt) : Option (Nat × Cell) → Out D
  | some (_, u) => attrV ρ ((inC u x).map fun b => .bool (if neg = true then !b else b))
  | none => lift (if neg = true then dNotIn x y else dIn x y) ρ
@[simp] theorem inM_ap : inM neg d e ρ = inR neg d e ρ (cellAt ρ e) := by
  unfold inM inR
  cases cellAt ρ e with
  | none => rfl
  | some q => obtain ⟨n, u⟩ := q; dsimp only; cases inC u d <;> rfl
@[simp] theorem inR_none : inR neg d e ρ none = lift (if neg = true then dNotIn d e else dIn d e) ρ := rfl
@[simp] theorem inR_some {u : Cell} : inR neg d e ρ (some (n, u)) = attrV ρ ((inC u d).map fun b => .bool (if neg = true then !b else b)) := rfl
@[simp] theorem inC_dic {s : Str} : inC (.dic kvs) (.str s) = some (hasKey (.str s) kvs) := rfl
@[simp] theorem inC_dlk {s : Str} : inC (.dlk kvs) (.str s) = some (hasKey (.str s) kvs) := rfl
def putR (ρ : MSt) (v k : D) : Option (Bool × Sto) → Option (Nat × Cell) → Out Fl
  | some (true, μ), some (n, .dic kvs) => (match keyOf k with
    | some _ => if kvs.length < sizeLine then .ok .nx (setSto ρ (μ.set n (.dic (putD kvs k v)))) else .stuck
    | none => .stuck)
  | _, _ => .stuck
theorem putK_ap : Mi.putK v d k ρ = putR ρ v k (stoOf ρ) (cellAt ρ d) := by
  unfold Mi.putK putR
  split
  · rename_i μ n kvs h1 h2; try rw [h1, h2]
    try dsimp only
    all_goals (cases keyOf k <;> rfl)
  · rename_i h
    first
    | rfl
    | (split
       · rename_i μ n xs h1 h2; exact absurd h2 (h _ _ _ h1)
       · rfl)
def dputJ (fd fk : MM D) (o : Out D) : Out Fl := Out.bind o fun v => MM.bind fd fun d => MM.bind fk fun k => Mi.putK v d k
def dputI (fk : MM D) (v : D) (o : Out D) : Out Fl := Out.bind o fun d => MM.bind fk fun k => Mi.putK v d k
def dputH (v d : D) (o : Out D) : Out Fl := Out.bind o fun k => Mi.putK v d k
@[simp] theorem dputS_ap : dputS fv fo fk ρ = dputJ fo fk (fv ρ) := rfl
@[simp] theorem dputJ_ok : dputJ fo fk (.ok v ρ) = dputI fk v (fo ρ) := rfl
@[simp] theorem dputI_ok : dputI fk v (.ok d ρ) = dputH v d (fk ρ) := rfl
@[simp] theorem dputH_ok : dputH v d (.ok k ρ) = putR ρ v k (stoOf ρ) (cellAt ρ d) := putK_ap
@[simp] theorem putR_dic {s : Str} : putR ρ v (.str s) (some (true, μ)) (some (n, .dic kvs)) = if kvs.length < sizeLine then .ok .nx (setSto ρ (μ.set n (.dic (putD kvs (.str s) v)))) else .stuck := rfl
def sOut (ρ : MSt) : SRes → Out D
  | .ok d μ' => .ok d (setSto ρ μ')
  | .exn e μ' => .exn e (setSto ρ μ')
  | .stuck => .stuck
def callSR (fm : Sto → List D → SRes) (ds : List D) (ρ : MSt) : Option (Bool × Sto) → Out D
  | some (true, μ) => sOut ρ (fm μ ds)
  | _ => .stuck
theorem callSK_ap : callSK fm ds ρ = callSR fm ds ρ (stoOf ρ) := by
  unfold callSK callSR
  split
  · rename_i μ h; try rw [h]
    try dsimp only
    all_goals (unfold sOut; cases fm μ ds <;> rfl)
  · rename_i h
    first
    | rfl
    | (split
       · rename_i μ h2; exact absurd h2 (h μ)
       · rfl)
def callSJ (fm : Sto → List D → SRes) (o : Out (List D)) : Out D := Out.bind o (callSK fm)
@[simp] theorem callSE_ap : callSE fm g ρ = callSJ fm (g ρ) := rfl
@[simp] theorem callSJ_ok : callSJ fm (.ok ds ρ) = callSR fm ds ρ (stoOf ρ) := callSK_ap
@[simp] theorem callSR_some : callSR fm ds ρ (some (true, μ)) = sOut ρ (fm μ ds) := rfl
@[simp] theorem sOut_ok : sOut ρ (.ok d μ) = .ok d (setSto ρ μ) := rfl
@[simp] theorem sOut_exn {e : Exn} : sOut ρ (.exn e μ) = .exn e (setSto ρ μ) := rfl
def isObR (m C : Str) : Option (Nat × Cell) → Bool
  | some (_, .obj C' fs) => decide (C' = C) && (fs.lookup m).isNone
  | _ => false
theorem isOb_ap : isOb ρ C m d = isObR m C (cellAt ρ d) := by
  unfold isOb isObR
  split <;> simp_all
@[simp] theorem isObR_obj : isObR m C (some (n, .obj C fs)) = (fs.lookup m).isNone := by unfold isObR; simp
def obJ (C m : Str) (fm : Sto → List D → SRes) (g : MM (List D)) (o : Out D) : Out D := Out.bind o fun d ρ => if isOb ρ C m d = true then MM.bind g (fun ds => callSK fm (d :: ds)) ρ else .stuck
def obI (fm : Sto → List D → SRes) (d : D) (o : Out (List D)) : Out D := Out.bind o fun ds => callSK fm (d :: ds)
@[simp] theorem obE_ap : methE C m fm fo g ρ = obJ C m fm g (fo ρ) := rfl
@[simp] theorem obJ_ok : obJ C m fm g (.ok d ρ) = if isObR m C (cellAt ρ d) = true then obI fm d (g ρ) else .stuck := by
  show (if isOb ρ C m d = true then _ else _) = _
  rw [isOb_ap]; rfl
@[simp] theorem obI_ok : obI fm d (.ok ds ρ) = callSR fm (d :: ds) ρ (stoOf ρ) := callSK_ap
def mkOut (n : Nat) (ρ : MSt) : SRes → Out D
  | .ok .none μ' => .ok (.loc n) (setSto ρ μ')
  | _ => .stuck
def makeR (C : Str) (fm : Sto → List D → SRes) (ds : List D) (ρ : MSt) : Option (Bool × Sto) → Out D
  | some (true, μ) => mkOut μ.length ρ (fm (μ ++ [.obj C []]) (.loc μ.length :: ds))
  | _ => .stuck
theorem makeK_ap : makeK C fm ds ρ = makeR C fm ds ρ (stoOf ρ) := by
  unfold makeK makeR
  split
  · rename_i μ h; try rw [h]
    try dsimp only
    unfold mkOut
    first
    | rfl
    | (split <;> simp_all)
  · rename_i h
    first
    | rfl
    | (split
       · rename_i μ h2; exact absurd h2 (h μ)
       · rfl)
def makeJ (C : Str) (fm : Sto → List D → SRes) (o : Out (List D)) : Out D := Out.bind o (makeK C fm)
@[simp] theorem makeE_ap2 : makeE C fm g ρ = makeJ C fm (g ρ) := rfl
@[simp] theorem makeJ_ok : makeJ C fm (.ok ds ρ) = makeR C fm ds ρ (stoOf ρ) := makeK_ap
@[simp] theorem makeR_some : makeR C fm ds ρ (some (true, μ)) = mkOut μ.length ρ (fm (μ ++ [.obj C []]) (.loc μ.length :: ds)) := rfl
@[simp] theorem mkOut_ok : mkOut n ρ (.ok .none μ) = .ok (.loc n) (setSto ρ μ) := rfl
def newR (u : Cell) (ρ : MSt) : Option (Bool × Sto) → Out D
  | some (true, μ) => .ok (.loc μ.length) (setSto ρ (μ ++ [u]))
  | _ => .stuck
@[simp] theorem newC_ap {u : Cell} : newC u ρ = newR u ρ (stoOf ρ) := by
  unfold newC newR
  split <;> simp_all
@[simp] theorem newR_some {u : Cell} : newR u ρ (some (true, μ)) = .ok (.loc μ.length) (setSto ρ (μ ++ [u])) := rfl
def newLstJ (o : Out (List D)) : Out D := Out.bind o fun xs => if small xs.length = true then newC (.lst xs) else stuck
@[simp] theorem newLst_ap : newLst g ρ = newLstJ (g ρ) := rfl
@[simp] theorem newLstJ_nil : newLstJ (.ok [] ρ) = newR (.lst []) ρ (stoOf ρ) := by
  show newC (.lst []) ρ = _
  rw [newC_ap]
def cellJ (o : Out S) : Out D := Out.bind o cellK
@[simp] theorem cellE_ap : cellE fo' ρ = cellJ (fo' ρ) := rfl
def cellR (u : Option Cell) (ρ : MSt) : Option (Bool × Sto) → Out D
  | some (true, μ) => (match u with | some u => .ok (.loc μ.length) (setSto ρ (μ ++ [u])) | none => .stuck)
  | _ => .stuck
@[simp] theorem cellJ_ok : cellJ (.ok s ρ) = cellR (cellOf s) ρ (stoOf ρ) := by
  show cellK s ρ = _
  unfold cellK cellR
  cases cellOf s with
  | none => rcases stoOf ρ with _ | ⟨⟨⟩, _⟩ <;> rfl
  | some u => rcases stoOf ρ with _ | ⟨⟨⟩, _⟩ <;> rfl
@[simp] theorem cellR_od : cellR (cellOf (.od kvs)) ρ (some (true, μ)) = .ok (.loc μ.length) (setSto ρ (μ ++ [.dic kvs])) := rfl
def appCR (v : D) (ρ : MSt) : Option (Bool × Sto) → Option (Nat × Cell) → Out D
  | some (true, μ), some (n, .lst xs) => if xs.length < sizeLine then .ok .none (setSto ρ (μ.set n (.lst (xs ++ [v])))) else .stuck
  | _, _ => .stuck
theorem appCK_ap : appCK d v ρ = appCR v ρ (stoOf ρ) (cellAt ρ d) := by
  unfold appCK appCR
  split <;> simp_all
def isLstR : Option (Nat × Cell) → Bool
  | some (_, .lst _) => true
  | _ => false
def appCJ (fv : MM D) (o : Out D) : Out D := Out.bind o fun d ρ => if isLstC ρ d = true then MM.bind fv (fun v => appCK d v) ρ else .stuck
def appCI (d : D) (o : Out D) : Out D := Out.bind o fun v => appCK d v
@[simp] theorem appC_ap : appC fo fv ρ = appCJ fv (fo ρ) := rfl
@[simp] theorem appCJ_ok : appCJ fv (.ok d ρ) = if isLstR (cellAt ρ d) = true then appCI d (fv ρ) else .stuck := by
  show (if isLstC ρ d = true then _ else _) = _
  have : isLstC ρ d = isLstR (cellAt ρ d) := by unfold isLstC isLstR; split <;> simp_all
  rw [this]; rfl
@[simp] theorem isLstR_lst : isLstR (some (n, .lst xs)) = true := rfl
@[simp] theorem appCI_ok : appCI d (.ok v ρ) = appCR v ρ (stoOf ρ) (cellAt ρ d) := appCK_ap
@[simp] theorem appCR_lst : appCR v ρ (some (true, μ)) (some (n, .lst xs)) = if xs.length < sizeLine then .ok .none (setSto ρ (μ.set n (.lst (xs ++ [v])))) else .stuck := rfl
def popLR (ρ : MSt) : Option (Bool × Sto) → Option (Nat × Cell) → Out D
  | some (true, μ), some (n, .lst xs) => attrV (setSto ρ (μ.set n (.lst xs.dropLast))) xs[xs.length - 1]?
  | _, _ => .stuck
def popLJ (o : Out D) : Out D := Out.bind o popLK
@[simp] theorem popLC_ap : popLC fo ρ = popLJ (fo ρ) := rfl
@[simp] theorem popLJ_ok : popLJ (.ok d ρ) = popLR ρ (stoOf ρ) (cellAt ρ d) := by
  show popLK d ρ = _
  unfold popLK popLR
  split
  · rename_i μ n xs h1 h2
    try rw [h1, h2]
    try dsimp only
    all_goals (cases xs[xs.length - 1]? <;> rfl)
  · rename_i h
    first
    | rfl
    | (split
       · rename_i μ n xs h1 h2; exact absurd h2 (h _ _ _ h1)
       · rfl)
@[simp] theorem popLR_lst : popLR ρ (some (true, μ)) (some (n, .lst xs)) = attrV (setSto ρ (μ.set n (.lst xs.dropLast))) xs[xs.length - 1]? := rfl
def popR (k : D) (ρ : MSt) : Option (Bool × Sto) → Option (Nat × Cell) → Out D
  | some (true, μ), some (n, .dic kvs) => (match keyOf k with
    | some _ => attrV (setSto ρ (μ.set n (.dic (dropD kvs k)))) (valAt kvs k)
    | none => .stuck)
  | _, _ => .stuck
theorem popK_ap : popK d k ρ = popR k ρ (stoOf ρ) (cellAt ρ d) := by
  unfold popK popR
  split
  · rename_i μ n kvs h1 h2
    try rw [h1, h2]
    try dsimp only
    cases keyOf k with
    | none => rfl
    | some _ => (try dsimp only); cases valAt kvs k <;> rfl
  · rename_i h
    first
    | rfl
    | (split
       · rename_i μ n xs h1 h2; exact absurd h2 (h _ _ _ h1)
       · rfl)
def popCJ (fk : MM D) (o : Out D) : Out D := Out.bind o fun d ρ => if isDicC ρ d = true then MM.bind fk (fun k => popK d k) ρ else .stuck
def popCI (d : D) (o : Out D) : Out D := Out.bind o fun k => popK d k
def isDicR : Option (Nat × Cell) → Bool
  | some (_, .dic _) => true
  | _ => false
@[simp] theorem popC_ap : popC fo fk ρ = popCJ fk (fo ρ) := rfl
@[simp] theorem popCJ_ok : popCJ fk (.ok d ρ) = if isDicR (cellAt ρ d) = true then popCI d (fk ρ) else .stuck := by
  show (if isDicC ρ d = true then _ else _) = _
  have : isDicC ρ d = isDicR (cellAt ρ d) := by unfold isDicC isDicR; split <;> simp_all
  rw [this]; rfl
@[simp] theorem isDicR_dic : isDicR (some (n, .dic kvs)) = true := rfl
@[simp] theorem popCI_ok : popCI d (.ok k ρ) = popR k ρ (stoOf ρ) (cellAt ρ d) := popK_ap
@[simp] theorem popR_dic {s : Str} : popR (.str s) ρ (some (true, μ)) (some (n, .dic kvs)) = attrV (setSto ρ (μ.set n (.dic (dropD kvs (.str s))))) (valAt kvs (.str s)) := rfl
def sortJ (o : Out (List D)) : Out D := Out.bind o fun ds => match ds with
  | [d] => sortK d
  | _ => stuck
@[simp] theorem sortC_ap : sortC g ρ = sortJ (g ρ) := rfl
@[simp] theorem sortJ_one : sortJ (.ok [d] ρ) = sortK d ρ := rfl
end
end Mi
set_option Elab.async false
set_option linter.all false
set_option maxRecDepth 100000
set_option maxHeartbeats 1000000
namespace Mi
open PySem L2
section
variable {ρ : MSt} {μ : Sto} {n : Nat} {f : MM D} {g : MM (List D)} {d : D} {kvs ms : List (D × D)} {i : Nat} {xs : List D}
def iterMR (d : D) (ρ : MSt) : Option (Nat × Cell) → Out (List D)
  | some (_, .dlk kvs) => .ok (keysD kvs) ρ
  | _ => lift (iterAll d) ρ
def iterMJ (o : Out D) : Out (List D) := Out.bind o fun x ρ => match cellAt ρ x with
  | some (_, .dlk kvs) => .ok (keysD kvs) ρ
  | _ => lift (iterAll x) ρ
@[simp] theorem iterM_ap : iterM f ρ = iterMJ (f ρ) := rfl
@[simp] theorem iterMJ_ok : iterMJ (.ok d ρ) = iterMR d ρ (cellAt ρ d) := by
  show (match cellAt ρ d with | some (_, .dlk kvs) => Out.ok (keysD kvs) ρ | _ => lift (iterAll d) ρ) = _
  unfold iterMR
  split <;> simp_all
@[simp] theorem iterMR_dlk : iterMR d ρ (some (n, .dlk kvs)) = .ok (keysD kvs) ρ := rfl
def iterIR (ρ : MSt) : Option (Nat × Cell) → Out (List D)
  | some (_, .dlk kvs) => .ok (pairsD kvs) ρ
  | _ => .stuck
def iterIJ (o : Out D) : Out (List D) := Out.bind o fun x ρ => match cellAt ρ x with
  | some (_, .dlk kvs) => .ok (pairsD kvs) ρ
  | _ => .stuck
@[simp] theorem iterI_ap : iterI f ρ = iterIJ (f ρ) := rfl
@[simp] theorem iterIJ_ok : iterIJ (.ok d ρ) = iterIR ρ (cellAt ρ d) := by
  show (match cellAt ρ d with | some (_, .dlk kvs) => Out.ok (pairsD kvs) ρ | _ => .stuck) = _
  unfold iterIR
  split <;> simp_all
@[simp] theorem iterIR_dlk : iterIR ρ (some (n, .dlk kvs)) = .ok (pairsD kvs) ρ := rfl
def copyR (ρ : MSt) : Option (Nat × Cell) → Out S
  | some (_, u) => (match dicOf u with | some kvs => .ok (.od kvs) ρ | none => .stuck)
  | none => .stuck
def copyJ (o : Out (List D)) : Out S := Out.bind o fun ds => match ds with
  | [d] => copyK d
  | _ => fun _ => .stuck
@[simp] theorem copyO_ap : copyO g ρ = copyJ (g ρ) := rfl
@[simp] theorem copyJ_loc : copyJ (.ok [.loc n] ρ) = copyR ρ (cellAt ρ (.loc n)) := by
  show copyK (.loc n) ρ = _
  unfold copyK copyR
  show (match (match cellAt ρ (.loc n) with | some (_, u) => dicOf u | none => none) with | some kvs => Out.ok (S.od kvs) ρ | none => .stuck) = _
  rcases cellAt ρ (.loc n) with _ | ⟨k, u⟩
  · rfl
  · rfl
@[simp] theorem copyR_dic : copyR ρ (some (n, .dic kvs)) = .ok (.od kvs) ρ := rfl
@[simp] theorem sortK_cell : sortK (.loc n) ρ = (match cellAt ρ (.loc n) with
  | some (_, u) => (match dicOf u with
    | some kvs => (match allStr kvs with
      | some ks => if ks.length < 64 then .ok (.list (sortL (ks.map .str))) ρ else .stuck
      | none => .stuck)
    | none => .stuck)
  | none => .stuck) := by
  unfold sortK
  show (match (match cellAt ρ (.loc n) with | some (_, u) => dicOf u | none => none) with | some kvs => _ | none => Out.stuck) = _
  rcases cellAt ρ (.loc n) with _ | ⟨k, u⟩ <;> rfl
def updJ (i : Nat) (o : Out D) : Out Fl := Out.bind o fun d ρ' => match ρ'[i]?, d with
    | some (some (.od kvs)), .dict ms => if kvs.length + ms.length ≤ sizeLine then .ok .nx (ρ'.set i (some (.od (mergeD kvs ms)))) else .stuck
    | _, _ => .stuck
def updR (i : Nat) (d : D) (ρ : MSt) : Option (Option S) → Out Fl
  | some (some (.od kvs)) => (match d with | .dict ms => if kvs.length + ms.length ≤ sizeLine then .ok .nx (ρ.set i (some (.od (mergeD kvs ms)))) else .stuck | _ => .stuck)
  | _ => .stuck
def isOdS : Option (Option S) → Bool
  | some (some (.od _)) => true
  | _ => false
@[simp] theorem isOdS_od : isOdS (some (some (.od kvs))) = true := rfl
@[simp] theorem updS_ap : updS i f ρ = if isOdS ρ[i]? = true then updJ i (f ρ) else .stuck := by
  unfold updS isOdS
  rcases ρ[i]? with _ | ⟨_ | ⟨⟨⟩⟩⟩ <;> rfl
@[simp] theorem updJ_dict : updJ i (.ok (.dict ms) ρ) = updR i (.dict ms) ρ ρ[i]? := by
  unfold updJ updR
  rw [Out.bind_ok]
  rcases ρ[i]? with _ | ⟨⟨⟩ | ⟨⟨⟩⟩⟩ <;> rfl
@[simp] theorem updR_od : updR i (.dict ms) ρ (some (some (.od kvs))) = if kvs.length + ms.length ≤ sizeLine then .ok .nx (ρ.set i (some (.od (mergeD kvs ms)))) else .stuck := rfl
@[simp] theorem pickE_ok {ρ' : MSt} (h : f ρ = .ok (.loc n) ρ') : pickE f ρ = some n := by unfold pickE; rw [h]
def celR (i : Nat) (ρ : MSt) (μ : Sto) : Option (Option S) → MSt
  | some (some s) => (match cellOf s with
    | some u => (setSto ρ (μ ++ [u])).set i (some (.d (.loc μ.length)))
    | none => ρ)
  | _ => ρ
@[simp] theorem celR_od : celR i ρ μ (some (some (.od kvs))) = (setSto ρ (μ ++ [.dic kvs])).set i (some (.d (.loc μ.length))) := rfl
end
end Mi
set_option Elab.async false
set_option linter.all false
set_option maxRecDepth 100000
set_option maxHeartbeats 4000000
namespace Mi
open PySem L2
def DictIn (d : Option Addr) (H : Hp) : Prop := ∀ dd, d = some dd → ∃ fs, H dd = some (.xd fs)
theorem DictIn.up {d : Option Addr} {H H' : Hp} (h : DictIn d H) (e : ∀ b o, H b = some o → H' b = some o) : DictIn d H' := fun dd z => by
  obtain ⟨fs, q⟩ := h dd z
  exact ⟨fs, e _ _ q⟩
end Mi
set_option Elab.async false
set_option linter.all false
set_option maxRecDepth 100000
set_option maxHeartbeats 4000000
namespace Mi
open PySem L2
structure TmF (K : Fg) : Prop where
  c : ExcC K (tmA K)
  k : ∀ y ∈ CL, PySem.W.kitOne K (.ref (tmA K)) (.ref (He.ga K y)) = some (decide (("TooMuch" : Str) = y))
  v : PySem.W.kitOne K (.ref (tmA K)) (.type "ValueError") = some true
  tt : PySem.W.exmOne K (.ref (tmA K)) (.ref (tmA K)) = some true
  o : OexC K (tmA K)
  i : PySem.W.findIn K (.ref (tmA K)) "__init__" = some (some (.ref (tmI K)))
  t : PySem.W.typeIn K (.ref (tmI K)) = some (.type "function")
  no : PySem.W.findIn K (.ref (tmA K)) "lacks" = some none
  cr : PySem.W.readsIn K (ceA K) (.type "type") = true
  cg : PySem.W.specialIn K (.ref (ceA K)) "__getattribute__" = some (some (.builtin "type.__getattribute__"))
  ci : PySem.W.findCls K (.ref (ceA K)) (.type "type") "__init__" = some (.val (.builtin "ValueError.__init__"))
theorem TmF.x {K : Fg} (t : TmF K) : XfC K (tmA K) := ⟨t.c.hg, t.c.hk, t.c.hs, t.c.hd⟩
end Mi
set_option Elab.async false
set_option linter.all false
set_option maxRecDepth 100000
set_option maxHeartbeats 4000000
namespace Mi
open PySem L2
def raiseTM (f : MM D) : MM Fl := fun ρ => match f ρ with
  | .ok (.int n) ρ' => .exn ⟨"TooMuch", some n⟩ ρ'
  | .ok _ _ => .stuck
  | .exn e ρ' => .exn e ρ'
  | .stuck => .stuck
def toldX3 (ns : List Str) (e : Exn) : Res D := match e.lacks with
  | none => if e.cls ∈ ns then .ok (.tuple [.str "refused", .str e.cls]) else .stuck
  | some n => if e.cls = "TooMuch" then .ok (.tuple [.str "refused", .str "TooMuch", .int n]) else .stuck
def toldK3 (ns : List Str) (o : Out D) : Out D := match o with
  | .ok d ρ => .ok d ρ
  | .exn e ρ => lift (toldX3 ns e) ρ
  | .stuck => .stuck
def toldE3 (ns : List Str) (f : MM D) : MM D := fun ρ => toldK3 ns (f ρ)
section
variable {ns : List Str} {f : MM D} {ρ : MSt} {x : D} {cn : Str} {n : Int}
@[simp] theorem toldE3_ap : toldE3 ns f ρ = toldK3 ns (f ρ) := rfl
@[simp] theorem toldK3_ok : toldK3 ns (.ok x ρ) = .ok x ρ := rfl
@[simp] theorem toldK3_too : toldK3 ns (.exn ⟨"TooMuch", some n⟩ ρ) = .ok (.tuple [.str "refused", .str "TooMuch", .int n]) ρ := rfl
def raiseTMK : Out D → Out Fl
  | .ok (.int n) ρ' => .exn ⟨"TooMuch", some n⟩ ρ'
  | .ok _ _ => .stuck
  | .exn e ρ' => .exn e ρ'
  | .stuck => .stuck
@[simp] theorem raiseTM_ap : raiseTM f ρ = raiseTMK (f ρ) := rfl
@[simp] theorem raiseTMK_ok : raiseTMK (.ok (.int n) ρ) = .exn ⟨"TooMuch", some n⟩ ρ := rfl
end
end Mi
set_option Elab.async false
set_option linter.all false
set_option maxRecDepth 100000
set_option maxHeartbeats 4000000
namespace Mi
open L2 PySem PySem.Spec PyProof.Rows
section
variable {prog : Program} {w : World} {A : Around} {R : Result → Shared → Prop} {s : Shared} {kx vx t0 i0 t1 i1 : Expr} {f0 f1 : List Expr} {scope : Scope} {pos : Pos} {it : Value} {D : Addr} {env : Env}
abbrev nb (prog : Program) (w : World) (A : Around) (env : Env) (R : Result → Shared → Prop) : Value → Shared → Prop := notedBy (model prog w) A env fun e s' => R (.error e) s'
end
end Mi
set_option Elab.async false
set_option linter.all false
set_option maxRecDepth 100000
set_option maxHeartbeats 4000000
set_option Elab.async false
set_option linter.all false
set_option maxRecDepth 100000
set_option maxHeartbeats 4000000
set_option Elab.async false
set_option linter.all false
set_option maxRecDepth 100000
set_option maxHeartbeats 4000000
namespace Mi
open PySem PySem.Spec PyProof.Rows L2
section
variable {X : Cx} {T : Tb} {c : Gh} {W : WX}
def dMinT : List D → Res D
  | [.tuple (x :: xs)] => if mmOk (x :: xs) = true then .ok (minF x xs) else .stuck
  | _ => .stuck
@[simp] theorem dMinT_2 {i j : Int} : dMinT [.tuple [.int i, .int j]] = .ok (.int (min i j)) := by
  have ok : mmOk [.int i, .int j] = true := rfl
  show (if mmOk [.int i, .int j] = true then Res.ok (minF (.int i) [.int j]) else .stuck) = _
  rw [if_pos ok]
  show Res.ok (if PySem.W.dataLt (.int j) (.int i) = true then Mi.D.int j else Mi.D.int i) = _
  rw [PySem.W.dataLt_int]
  by_cases h : j < i
  · rw [if_pos (by simpa using h), show min i j = j from by omega]
  · rw [if_neg (by simpa using h), show min i j = i from by omega]
end
end Mi
set_option Elab.async false
set_option linter.all false
set_option maxRecDepth 100000
set_option maxHeartbeats 4000000
set_option Elab.async false
set_option linter.all false
set_option maxRecDepth 100000
set_option maxHeartbeats 4000000
set_option Elab.async false
set_option linter.all false
set_option maxRecDepth 100000
set_option maxHeartbeats 4000000
set_option Elab.async false
set_option linter.all false
set_option maxRecDepth 100000
set_option maxHeartbeats 4000000
set_option Elab.async false
set_option linter.all false
set_option maxRecDepth 100000
set_option maxHeartbeats 4000000
set_option Elab.async false
set_option linter.all false
set_option maxRecDepth 100000
set_option maxHeartbeats 4000000
set_option Elab.async false
set_option linter.all false
set_option maxRecDepth 100000
set_option maxHeartbeats 4000000
set_option Elab.async false
set_option linter.all false
set_option maxRecDepth 100000
set_option maxHeartbeats 4000000
namespace Mi
open PySem PySem.Spec PyProof.Rows L2
section
variable {X : Cx} {T : Tb} {c : Gh} {W : WX} {e : Expr} {es : List Expr} {p pos lpos : Pos}
theorem CellAt.td {K : Fg} {T T' : Tb} {G : Wd} {H : Hp} {a : Addr} {u : Cell} (e : T'.td = T.td) (h : CellAt K T G H a u) : CellAt K T' G H a u := by
  cases h with
  | lst h r => exact .lst h r
  | dic h r => exact .dic h r
  | dlk h r => exact .dlk h r
  | tdc t c1 c2 c3 h r => exact .tdc (by rw [e]; exact t) c1 c2 c3 h r
  | obj h h2 g2 r => exact .obj h h2 g2 r
  | gone h c1 c2 c3 => exact .gone h c1 c2 c3
theorem StoOk.td {K : Fg} {T T' : Tb} {G : Wd} {H : Hp} {μ : Sto} (e : T'.td = T.td) (h : StoOk K T G H μ) : StoOk K T' G H μ := ⟨h.len, h.nd, fun n a u h1 h2 => ⟨(h.at_ n a u h1 h2).1, (h.at_ n a u h1 h2).2.td e⟩⟩
end
end Mi
set_option Elab.async false
set_option linter.all false
set_option maxRecDepth 100000
set_option maxHeartbeats 1000000
set_option Elab.async false
set_option linter.all false
set_option maxRecDepth 100000
set_option maxHeartbeats 2000000
namespace Mi
open PySem PySem.Spec PyProof.Rows L2
mutual
def plB : D → Bool
  | .none => true
  | .bool _ => true
  | .int _ => true
  | .str _ => true
  | .list xs => plBs xs
  | .tuple xs => plBs xs
  | .dict kvs => plKV kvs
  | _ => false
def plBs : List D → Bool
  | [] => true
  | x :: xs => plB x && plBs xs
def plKV : List (D × D) → Bool
  | [] => true
  | (_, v) :: xs => plB v && plKV xs
end
section
variable {X : Cx} {pins : List (Addr × Obj)} {σ : St} {H : Hp} {s : Shared} {m : List Addr}
theorem pairs_vals {P : Program} {w : World} : ∀ {es : List DictEntry} {vs : List (Key × Value)} {kvs : List (Key × V)}, PySem.Pairs (mixKind P w) es vs → KV kvs vs → Vals (kvs.map (·.2)) (es.map (·.val)) ∧ (∀ h : Heap, ReadsAll h (es.map (·.key)) (kvs.map fun p => (keyD p.1).py) []) := by
  intro es vs kvs h
  induction h generalizing kvs with
  | nil =>
    intro k
    cases k
    exact ⟨.nil, fun _ => .nil⟩
  | @cons e q es vs h1 h2 t ih =>
    intro k
    cases k with
    | @cons p _ l _ r t2 =>
      obtain ⟨r1, r2⟩ := r
      obtain ⟨i1, i2⟩ := ih t2
      refine ⟨.cons (by show L2.RelV p.2 e.val; rw [h2]; exact r2) i1, fun h => ?_⟩
      have h1 : keyIs q.1 e.key = true := h1
      rw [← r1] at h1
      have hd : Reads h e.key (keyD p.1).py [] := by
        rcases keyIs_shape h1 with ⟨i, t, e1, e2⟩ | ⟨x, t, e1, e2⟩
        · rw [e1, e2]; exact .int i t
        · rw [e1, e2]; exact .str x t
      exact ReadsAll.cons (as := []) (bs := []) hd (i2 h)
mutual
theorem Dq.reads (I : Inv X pins σ H s) (hy : H sysModules = none) : ∀ {v : V} {d : D} {u : Value}, Dq X.K ⟨H, m⟩ v d → plB d = true → RelV v u → ∃ as, Reads s.heap u d.py as ∧ sysModules ∉ as
  | _, _, _, .non, _, r => by
    cases r; exact ⟨[], .none, by simp⟩
  | _, _, _, .bl b, _, r => by
    cases r; exact ⟨[], .bool b, by simp⟩
  | _, _, _, .int i, _, r => by
    obtain ⟨t, rfl⟩ := r; exact ⟨[], .int i t, by simp⟩
  | _, _, _, .str x, _, r => by
    obtain ⟨t, rfl⟩ := r; exact ⟨[], .str x t, by simp⟩
  | _, _, _, .lst (a := a) (ds := ds) h1 h2, hp, r => by
    cases r
    obtain ⟨z, its, n, rv, hg⟩ := (show ObjOk X.prog X.w H s.heap a (.lst _) from rd_of I.hok h1)
    obtain ⟨as, ra, na⟩ := DqAll.readsA I hy h2 hp rv
    refine ⟨a :: as, .list hg rfl rfl (by simpa using ra), ?_⟩
    rw [List.mem_cons, not_or]
    refine ⟨fun e => ?_, na⟩
    have : (⟨H, m⟩ : Wd) a ≠ none := by
      rcases h1 with h1 | ⟨o, h1⟩ <;> rw [h1] <;> simp
    exact this (by rw [← e]; exact hy)
  | _, _, _, .tup (a := a) (ds := ds) h1 h2, hp, r => by
    cases r
    obtain ⟨its, rv, ⟨o, hg, hc, n, hd⟩, z⟩ := I.tuple h1.sq
    obtain ⟨as, ra, na⟩ := DqAll.readsA I hy h2 hp rv
    exact ⟨as, .tuple hg hc hd (by simpa using ra), na⟩
  | _, _, _, .dic (a := a) (kvs := kvs) (ds := ds) h1 h2, hp, r => by
    cases r
    obtain ⟨z, hs, vs, kv, o, es, ep, hg, ex, hd, _, pr, _⟩ := dk_rd I.hok h1.rd
    obtain ⟨rv, rk⟩ := pairs_vals pr kv
    obtain ⟨bs, rb, nb, e1⟩ := DqKV.readsA I hy h2 hp rv
    have ne : ¬ sysModules = a := fun e => by rw [← e] at hs; simp at hs
    have rk := rk s.heap
    rw [← e1] at rk
    refine ⟨a :: [] ++ bs, .dict hg ex.1 hd rk rb, ?_⟩
    simp only [List.cons_append, List.nil_append, List.mem_cons, not_or]
    exact ⟨ne, nb⟩
  | _, _, _, .loc _, hp, _ => by cases hp
  | _, _, _, .exc _, hp, _ => by cases hp
  | _, _, _, .fn, hp, _ => by cases hp
theorem DqAll.readsA (I : Inv X pins σ H s) (hy : H sysModules = none) : ∀ {vs : List V} {ds : List D} {us : List Value}, DqAll X.K ⟨H, m⟩ vs ds → plBs ds = true → Vals vs us → ∃ as, ReadsAll s.heap us (pys ds) as ∧ sysModules ∉ as
  | _, _, _, .nil, _, r => by
    cases r; exact ⟨[], .nil, by simp⟩
  | _, _, _, .cons h t, hp, r => by
    cases r with
    | cons r1 r2 =>
      obtain ⟨p1, p2⟩ := Bool.and_eq_true_iff.mp hp
      obtain ⟨as, ra, na⟩ := Dq.reads I hy h p1 r1
      obtain ⟨bs, rb, nb⟩ := DqAll.readsA I hy t p2 r2
      exact ⟨as ++ bs, .cons ra rb, by rw [List.mem_append, not_or]; exact ⟨na, nb⟩⟩
theorem DqKV.readsA (I : Inv X pins σ H s) (hy : H sysModules = none) : ∀ {kvs : List (Key × V)} {ds : List (D × D)} {us : List Value}, DqKV X.K ⟨H, m⟩ kvs ds → plKV ds = true → Vals (kvs.map (·.2)) us → ∃ as, ReadsAll s.heap us ((pykv ds).map (·.2)) as ∧ sysModules ∉ as ∧ (pykv ds).map (·.1) = kvs.map fun p => (keyD p.1).py
  | _, _, _, .nil, _, r => by
    cases r; exact ⟨[], .nil, by simp, rfl⟩
  | _, _, _, .cons h t, hp, r => by
    cases r with
    | cons r1 r2 =>
      obtain ⟨p1, p2⟩ := Bool.and_eq_true_iff.mp hp
      obtain ⟨as, ra, na⟩ := Dq.reads I hy h p1 r1
      obtain ⟨bs, rb, nb, e⟩ := DqKV.readsA I hy t p2 r2
      exact ⟨as ++ bs, .cons ra rb, by rw [List.mem_append, not_or]; exact ⟨na, nb⟩, by rw [pykv, List.map_cons, List.map_cons, e]⟩
end
end
end Mi
set_option Elab.async false
set_option linter.all false
set_option maxRecDepth 100000
set_option maxHeartbeats 2000000
namespace Mi
open PySem PySem.Spec PyProof.Rows L2
/-- what may be shown -/
def shOk (d : D) : Bool := plB d && (d.py.showable && (d.py.leavesShort 1000 && (decide (d.py.weight ≤ 10000) && decide (d.py.depth ≤ 40))))
def dShow (d : D) : Res D := match d with
  | .list xs => if shOk (.list xs) = true then .ok (.str (D.list xs).py.shown) else .stuck
  | _ => .stuck
def strE (f : MM D) : MM D := MM.bind f fun d => lift (dShow d)
section
variable {X : Cx} {T : Tb} {c : Gh} {W : WX} {e : Expr} {f : MM D} {p pos : Pos}
def rShow (K : Fg) : List V → Hp → VK → Prop := fun vs H Q => ∃ (m : List Addr) (v : V) (xs : List D), vs = [v] ∧ Dq K ⟨H, m⟩ v (.list xs) ∧ shOk (.list xs) = true ∧ Q (.str (D.list xs).py.shown) H
theorem call_show (hg : X.A.guards = some []) (hu : X.A.units + 64 < cLine) (hs : (X.K.lookup sysModules).isSome = true) : CallR X (.type "str") (rShow X.K) := by
  intro pins s σ H vs us Q I rv ⟨m, v, xs, e, dq, ok, q⟩
  subst e
  cases rv with
  | cons r1 r2 =>
    cases r2
    unfold shOk at ok
    simp only [Bool.and_eq_true, decide_eq_true_eq] at ok
    obtain ⟨o1, o2, o3, o4, o5⟩ := ok
    obtain ⟨o, ho⟩ := Option.isSome_iff_exists.mp hs
    have hy : H sysModules = none := (I.bs _ _ (I.mod.kin _ _ ho)).2
    obtain ⟨as, rd, na⟩ := Dq.reads I hy dq o1 r1
    cases dq with
    | lst h1 h2 =>
      cases r1
      have sz : (D.list xs).py.shown.length ≤ sizeLine := by
        have := PyData.shown_le 1000 (by decide) _ o3
        have sl : sizeLine = 16777216 := rfl
        rw [sl]
        have m : (1000 + 2) * (D.list xs).py.weight ≤ 1002 * 10000 := Nat.mul_le_mul_left 1002 o4
        omega
      refine str_of_reads rd o2 (fun _ => na) hg (by omega) (fun _ _ e => e) (fun h' u tk hk => ?_) sz
      exact ⟨.str _, H, I.kept hk, ⟨u, rfl⟩, q⟩
theorem me_strE (hc : X.A.guards = some []) (hu : X.A.units + 64 < cLine) (hs : (X.K.lookup sysModules).isSome = true) (hgl : Gl X "str") (hm : X.mg "str" = none) (hv : bootBuiltins "str" = some (.type "str")) (he : PE X e (mE X.K T c W f)) (hn : ("str" : Str) ≠ "__name__" := by decide) (hdb : (("str" : Str) == ("__debug__" : Str)) = false := by decide)
    (h1 : starEach [e] X.env = (false, eval e X.env) :: starEach [] X.env := by rfl) (hpl : (backTo pos (starEach [] X.env)).any (·.1) = false := by rfl) :
    PE X (.Call (.Name "str" p) [e] [] pos) (mE X.K T c W (strE f)) := by
  refine pe_mono (pe_callTy (call_show hc hu hs) hgl hm hv (pa_cons he pa_nil h1) hn hdb h1 hpl) fun σ H Q ⟨G, ρ, j, pp⟩ => ?_
  refine pX_bind j pp fun d v ρ1 G1 H1 l1 j1 r1 p1 => ?_
  unfold dShow at p1
  cases d with
  | list xs =>
    dsimp only at p1
    by_cases z : shOk (.list xs) = true
    · rw [if_pos z] at p1
      exact ⟨G1.m, v, xs, rfl, Dq.up r1 j1.sub, z, p1.here j1 (.str _)⟩
    · rw [if_neg z] at p1
      exact p1.elim
  | _ => exact p1.elim
end
structure FnOkG (P : Program) (w : World) (K : Fg) (mg : Str → Option Value) (base : Heap) (CX : CXT) (k : Nat) (f : Addr) (fd : FuncData) (ps : List Str) (sp : Sp) : Prop where
  run : ∀ (A : Around) (outer : List Env) (s : Shared) (H : Hp) (args : Args) (us : List Value) (vs : List V) (Q : VK) (E : XK), A.guards = some [] → Room k A → Env0 P w K mg base A outer s H → BindsTo s fd args (ps.zip us) → Vals vs us → sp vs H Q E →
    codeAny (model P w) A (.call (.ref f) args) (CR CX outer P w H s Q E) s
section
variable {P : Program} {w : World} {K : Fg} {mg : Str → Option Value} {base : Heap} {T : Tb}
theorem okG {x qual : Str} {st : Stmt} {f : Addr} {fd : FuncData} {N ps : List Str} {k : Nat} {sp : Sp} (F : Fun K x qual st f fd) (S : FnScope N ps (defScope st)) (len : ∀ vs H Q E, sp vs H Q E → vs.length = ps.length)
    (hb : ∀ (cdv : Value), cdv = fd.code → ∀ (A : Around) (outer : List Env) (s : Shared) (H : Hp) (vs : List V) (Q : VK) (E : XK), A.guards = some [] → Room k (A.deeper (PyProof.Rows.envOfC qual (defScope st) s.heap.objs.size f cdv)) → sp vs H Q E →
      ∃ t, PSs (cxX P w K mg base N qual (defScope st) f cdv A outer s H E) (defBody st) t ∧ t { nx := fun _ H' => Q .non H', rt := Q } (L2.start N vs) H) : FnOkG P w K mg base (L2N.CX P w) (k + 1) f fd ps sp := by
  obtain ⟨oc, od, kV, doc, pm, an, cdv, ct, osl, e, lk, code⟩ := F.ex
  subst e
  constructor
  intro A outer s H args us vs Q E quiet room at0 bound rv want
  have many := len _ _ _ _ want
  have keep : ∀ b o, base.get? b = some o → s.heap.get? b = some o := fun b o z => (at0.bs b o z).1
  have inK : K.In s.heap := at0.mod.kin.keeps keep
  have slots : ∀ y ∈ ps.zip us, (defScope st).names.lookup y.1 = some .local ∨ ((defScope st).names.lookup y.1 = some .cell ∧ ((cellsFrom (s.heap.objs.size + 1) (defScope st).names []).lookup y.1).isSome = true) := by
    rintro ⟨n, v⟩ mem
    cases S.par n (List.of_mem_zip mem).1 with
    | inl q => exact .inl q
    | inr q => exact .inr ⟨q, PySem.W.cellsFrom_some _ _ _ (.inl q)⟩
  refine codeAny_call_function room.depth (inK _ _ lk) rfl S.co S.gen rfl (PySem.W.codeRec_of inK code) (bound _ _ _ _ (wpAny_newFunctionEnv_cells S.kind slots ?_))
  intro env he s1 call
  subst he
  obtain ⟨t, run, post⟩ := hb _ rfl A outer s H vs Q E quiet (room.deeper _) want
  refine ⟨(at0.mod.nolimit.keeps keep).keeps call.toInCall.keep, codeAny_func (wpAny_mono (run.run [] s1 (L2.start N vs) H _ (inv_start S room.hd at0 many rv call) post) ?_ fun _ _ z => z)⟩
  intro fl s' at1
  match fl, at1 with
  | .ret u, ⟨v, σ', H', I, r, q⟩ => exact ⟨v, H', I.os, I.bare, I.base, I.hok, r, q⟩
  | .next, ⟨σ', H', I, q⟩ => exact ⟨.non, H', I.os, I.bare, I.base, I.hok, rfl, q⟩
  | .brk, ⟨_, _, _, q⟩ => exact False.elim q
  | .cont, ⟨_, _, _, q⟩ => exact False.elim q
end
end Mi
set_option Elab.async false
set_option linter.all false
set_option maxRecDepth 100000
set_option maxHeartbeats 2000000
namespace Mi
open PySem PySem.Spec PyProof.Rows L2
/-- what may be tracked as the law begins: lists and empty tables, nothing that is kept -/
def Trk (K : Fg) (h : Heap) (H : Hp) : Prop := ∀ b, H b ≠ none → K.lookup b = none ∧ ∃ o, h.get? b = some o ∧ ((∃ vs n, o.data = .seq vs n) ∨ o.data = .fields #[])
section
variable {K : Fg} {h : Heap} {H : Hp} {mg mb : Str → Option Value} {b : Addr} {o : Obj}
theorem Trk.out (t : Trk K h H) (e : h.get? b = some o) (h1 : ∀ vs n, o.data ≠ .seq vs n) (h2 : o.data ≠ .fields #[]) : H b = none := by
  refine Classical.byContradiction fun z => ?_
  obtain ⟨_, o', e', y⟩ := t b z
  obtain rfl : o = o' := Option.some.inj (e.symm.trans e')
  rcases y with ⟨vs, n, y⟩ | y
  · exact h1 vs n y
  · exact h2 y
theorem Trk.at (t : Trk K h H) (e : h.get? b = some o) (h1 : ∀ vs n, o.data ≠ .seq vs n) (h2 : o.data ≠ .fields #[]) : (hidT h H).get? b = some o := hidT_get e (t.out e h1 h2)
theorem Trk.ns {m : Str → Option Value} (t : Trk K h H) (n : h.Ns b m) : (hidT h H).Ns b m := by
  obtain ⟨o, es, ep, e, d, r⟩ := n
  exact ⟨o, es, ep, t.at e (fun _ _ z => by rw [d] at z; cases z) (fun z => by rw [d] at z; cases z), d, r⟩
theorem Trk.kin (t : Trk K h H) (KX : K.In h) : K.In (hidT h H) := fun b o e => hidT_get (KX b o e) (Classical.byContradiction fun z => by rw [(t b z).1] at e; cases e)
theorem Trk.mod (t : Trk K h H) (KX : K.In h) (hg : h.Ns mainGlobals mg) (hb : h.Ns builtinsNs mb) (hbb : ∀ x : Str, x ≠ "__name__" → mb x = bootBuiltins x) (hl : h.NoLimit) : L2.Mod K mg (hidT h H) where
  kin := t.kin KX
  glob := t.ns hg
  blt := ⟨mb, t.ns hb, hbb⟩
  nolimit := hl.imp fun _ z => ⟨t.ns z.1, z.2⟩
theorem Trk.tabB {c P : Addr} (t : Trk K h H) (hg : h.Ns mainGlobals mg) (hP : h.get? P = some { cls := .none, data := .fields #[] }) (C : PySem.W.CodeHd h c P) (bm : ∃ (bm : Addr) (ob : Obj), mg "__builtins__" = some (.ref bm) ∧ bm ≠ builtinsNs ∧ h.get? bm = some ob ∧ ob.cls = .type "module" ∧ ob.dict = some builtinsNs ∧ ob.data = .plain) : LamX.TabB (hidT h H) mg c P := by
  have gP : mainGlobals ≠ P := fun z => by
    obtain ⟨o, es, ep, e, d, _⟩ := hg
    rw [z, hP] at e
    obtain rfl := Option.some.inj e
    cases d
  refine ⟨?_, ?_, gP⟩
  · obtain ⟨o, vs, file, tf, flags, tg, inF, text, tt, e1, e2, e3, e4, rest⟩ := C
    refine ⟨o, vs, file, tf, flags, tg, inF, text, tt, t.at e1 (fun _ _ z => by rw [e3] at z; cases z) (fun z => ?_), e2, e3, e4, rest⟩
    rw [e3] at z
    obtain rfl : vs = #[] := by injection z
    simp at e4
  · obtain ⟨bm, ob, b1, b2, b3, b4, b5, b6⟩ := bm
    refine ⟨bm, ob, b1, b2, fun z => ?_, fun z => ?_, t.at b3 (fun _ _ y => by rw [b6] at y; cases y) (fun y => by rw [b6] at y; cases y), b4, b5, b6⟩
    · obtain ⟨o, es, ep, e, d, _⟩ := hg
      rw [← z, b3] at e
      obtain rfl := Option.some.inj e
      rw [b6] at d; cases d
    · rw [z, hP] at b3
      obtain rfl := Option.some.inj b3
      cases b6
end
/-- the script's list and the tables -/
def H0 (K : Fg) (a : Addr) (o : Obj) (u : HO) (ts : List Addr) : Hp := fun b => if b = a then (match K.lookup a with | none => some (.frz o u) | some _ => none) else if b ∈ ts then some (.tbl #[]) else none
section
variable {P : Program} {w : World} {K : Fg} {mg mb : Str → Option Value} {CX : CXT} {k : Nat} {fa a : Addr} {cs : List (Addr × Addr)} {fd : FuncData} {x : Str} {sp : Sp} {s₁ : Shared} {vs : List Value} {ns : List Int}
theorem law_G (KX : K.In s₁.heap) (hns : s₁.heap.Ns mainGlobals mg) (hb : s₁.heap.Ns builtinsNs mb) (hbb : ∀ x : Str, x ≠ "__name__" → mb x = bootBuiltins x) (hlim : s₁.heap.NoLimit) (hg : s₁.gens = #[])
    (hT : ∀ p ∈ cs, s₁.heap.get? p.2 = some { cls := .none, data := .fields #[] }) (nT : ∀ p ∈ cs, K.lookup p.2 = none) (C : ∀ p ∈ cs, PySem.W.CodeHd s₁.heap p.1 p.2)
    (hbm : ∃ (bm : Addr) (ob : Obj), mg "__builtins__" = some (.ref bm) ∧ bm ≠ builtinsNs ∧ s₁.heap.get? bm = some ob ∧ ob.cls = .type "module" ∧ ob.dict = some builtinsNs ∧ ob.data = .plain)
    (ha : s₁.heap.get? a = some { cls := .type "list", data := .seq vs.toArray }) (hi : IntsAre vs ns) (hl : ns.length ≤ sizeLine) (hr : Room k callerA)
    (F : ∀ base : Heap, K.In base → base.Ns mainGlobals mg → (∀ p ∈ cs, LamX.TabB base mg p.1 p.2) → FnOkG P w K mg base CX k fa fd [x] sp) (hbind : ∀ (s : Shared) (u : Value), BindsTo s fd ⟨[u], []⟩ [(x, u)])
    (hsp : ∀ H : Hp, (∀ p ∈ cs, H p.2 = some (.tbl #[])) → SqL K H a (ns.map V.int) → sp [.ref a] H (fun v _ => v = .bl true) fun _ _ _ => False)
    (hCX : ∀ H e s', CX [] H s₁ (fun _ _ _ => False) e s' → False) :
    codeAny (model P w) callerA (.call (.ref fa) ⟨[.ref a], []⟩) (fun r s' => r = .ok (.ret (.bool true)) ∧ OldK s₁.heap s'.heap ∧ s'.os = s₁.os ∧ AllBare s'.gens) s₁ := by
  have rv := vals_ints hi
  have na : a ∉ cs.map (·.2) := fun m => by
    obtain ⟨p, hp, e⟩ := List.mem_map.mp m
    have z := hT p hp
    rw [e, ha] at z
    have z := congrArg Obj.data (Option.some.inj z)
    cases z
  have get_T : ∀ {b : Addr}, b ∈ cs.map (·.2) → s₁.heap.get? b = some { cls := .none, data := .fields #[] } ∧ K.lookup b = none := fun m => by
    obtain ⟨p, hp, e⟩ := List.mem_map.mp m
    rw [← e]; exact ⟨hT p hp, nT p hp⟩
  let H : Hp := H0 K a { cls := .type "list", data := .seq vs.toArray } (.lst (ns.map V.int)) (cs.map (·.2))
  have H_T : ∀ {b : Addr}, b ∈ cs.map (·.2) → H b = some (.tbl #[]) := fun {b} m => by
    show H0 K a _ _ _ b = _
    unfold H0
    rw [if_neg (fun z : b = a => na (z ▸ m)), if_pos m]
  have H_o : ∀ {b : Addr}, b ≠ a → b ∉ cs.map (·.2) → H b = none := fun {b} n m => by
    show H0 K a _ _ _ b = _
    unfold H0
    rw [if_neg n, if_neg m]
  have H_a : H a = match K.lookup a with | none => some (.frz { cls := .type "list", data := .seq vs.toArray } (.lst (ns.map V.int))) | some _ => none := by
    show H0 K a _ _ _ a = _
    unfold H0
    rw [if_pos rfl]
  have trk : Trk K s₁.heap H := fun b z => by
    by_cases e : b = a
    · subst e
      refine ⟨?_, _, ha, .inl ⟨_, _, rfl⟩⟩
      cases y : K.lookup b with
      | none => rfl
      | some o => rw [H_a, y] at z; exact absurd rfl z
    · by_cases m : b ∈ cs.map (·.2)
      · exact ⟨(get_T m).2, _, (get_T m).1, .inr rfl⟩
      · exact absurd (H_o e m) z
  have ok : HOk P w H s₁.heap := fun b u e => by
    by_cases z : b = a
    · subst z
      cases y : K.lookup b with
      | some o => rw [H_a, y] at e; cases e
      | none =>
        rw [H_a, y] at e
        obtain rfl := Option.some.inj e
        exact ⟨ha, by rw [List.length_map]; exact hl, vs, _, rv, ha⟩
    · by_cases m : b ∈ cs.map (·.2)
      · rw [H_T m] at e
        obtain rfl := Option.some.inj e
        exact (get_T m).1
      · rw [H_o z m] at e; cases e
  have sq : SqL K H a (ns.map V.int) := by
    cases y : K.lookup a with
    | none => exact .inl (.inr ⟨{ cls := .type "list", data := .seq vs.toArray }, by rw [H_a, y]⟩)
    | some o =>
      obtain rfl := Option.some.inj ((KX a o y).symm.trans ha)
      exact .inr ⟨_, vs.toArray, _, y, rfl, rfl, rfl, by rw [List.size_toArray, hi.length]; exact hl, by simpa using rv⟩
  have e0 : Env0 P w K mg (hidT s₁.heap H) callerA [] s₁ H := ⟨rfl, trk.mod KX hns hb hbb hlim, fun _ _ e => of_hidT e, Nat.le_of_eq (hidT_size _ _), trivial, (fun _ m => by cases m), ok, .of_eq hg⟩
  have fn := F _ (trk.kin KX) (trk.ns hns) fun p hp => trk.tabB hns (hT p hp) (C p hp) hbm
  refine codeAny_mono (fn.run callerA [] s₁ H ⟨[.ref a], []⟩ [.ref a] [.ref a] _ _ rfl hr e0 (hbind s₁ (.ref a)) (.cons rfl .nil) (hsp H (fun p hp => H_T (List.mem_map.mpr ⟨p, hp, rfl⟩)) sq)) ?_
  intro r s' post
  match r, post with
  | .error e, z => exact (hCX H e s' z).elim
  | .ok .next, z => exact False.elim z
  | .ok .brk, z => exact False.elim z
  | .ok .cont, z => exact False.elim z
  | .ok (.ret u), ⟨v, H', os, bare, un, ok', r', q⟩ =>
    obtain rfl : v = .bl true := q
    obtain rfl : u = Value.bool true := r'
    have same : ∀ b o, b ∉ cs.map (·.2) → s₁.heap.get? b = some o → s'.heap.get? b = some o := fun b o m e => by
      by_cases z : b = a
      · subst z
        cases y : K.lookup b with
        | some ob => exact un.keep b o e (by rw [H_a, y]) (fun m => by cases m) (fun m => by cases m)
        | none =>
          have hf : H b = some (.frz { cls := .type "list", data := .seq vs.toArray } (.lst (ns.map V.int))) := by rw [H_a, y]
          have g1 := (ok b _ hf).1
          have g2 := (ok' b _ (un.frzs b _ _ hf)).1
          obtain rfl := Option.some.inj (g1.symm.trans e)
          exact g2
      · exact un.keep b o e (H_o z m) (fun m => by cases m) (fun m => by cases m)
    refine ⟨rfl, ⟨fun b o e => ?_, fun b o e => ?_⟩, os, bare⟩
    · by_cases m : b ∈ cs.map (·.2)
      · obtain ⟨p, hp, eb⟩ := List.mem_map.mp m
        obtain ⟨more, g⟩ := un.tbls b #[] (H_T m)
        have g' : s'.heap.get? b = some { cls := .none, data := .fields (#[] ++ more) } := ok' b _ g
        have e' := (get_T m).1
        obtain rfl := Option.some.inj (e'.symm.trans e)
        subst eb
        exact .inr (.inl ⟨((C p hp).tab (hT p hp)).isCodeTable, rfl, #[], more, rfl, g'⟩)
      · exact .inl (same b o m e)
    · by_cases m : b ∈ cs.map (·.2)
      · obtain ⟨more, g⟩ := un.tbls b #[] (H_T m)
        exact ⟨_, ok' b _ g⟩
      · exact ⟨o, same b o m e⟩
end
/-- what the law's head must give -/
def LawG (l : PySem.W.OpenLaw) (w : World) (K : Fg) (CX : CXT) (k n : Nat) (x : Str) (mg : Str → Option Value) (fa : Addr) (h : Heap) : Prop :=
  ∃ (fd : FuncData) (cs : List (Addr × Addr)) (sp : Sp), (∀ p ∈ cs, h.get? p.2 = some { cls := .none, data := .fields #[] }) ∧ (∀ p ∈ cs, K.lookup p.2 = none) ∧ (∀ p ∈ cs, PySem.W.CodeHd h p.1 p.2) ∧ (∀ (s : Shared) (u : Value), BindsTo s fd ⟨[u], []⟩ [(x, u)]) ∧
    (∀ (H : Hp) (a : Addr) (ns : List Int), ns.length ≤ n → (∀ z ∈ ns, Builtin.Int.intBits z ≤ 1048576) → (∀ p ∈ cs, H p.2 = some (.tbl #[])) → SqL K H a (ns.map V.int) → sp [.ref a] H (fun v _ => v = .bl true) fun _ _ _ => False) ∧
    ∀ base : Heap, K.In base → base.Ns mainGlobals mg → (∀ p ∈ cs, LamX.TabB base mg p.1 p.2) → FnOkG l.prog w K mg base CX k fa fd [x] sp
theorem walk_G {l : PySem.W.OpenLaw} {n k : Nat} {q : Program} {loose : List Str} {XP : (Str → Option Value) → Heap → Prop} {YP : World → Heap → Prop} {d : DefRec} {CX : World → CXT} {x : Str}
    (hn : l.most = some n) (hn2 : n ≤ sizeLine) (hdf : d.params.defaults = []) (hr : Room k callerA)
    (F : ∀ (w : World) (mg : Str → Option Value) (fa : Addr) (h : Heap), YP w h → h.Ns mainGlobals mg → mg d.name = some (.ref fa) → ∃ K : Fg, K.In h ∧ LawG l w K (CX w) k n x mg fa h)
    (hCX : ∀ (w : World) (H : Hp) (s : Shared) (e : Value) (s' : Shared), CX w [] H s (fun _ _ _ => False) e s' → False) :
    PySem.W.WalkO q loose XP YP l.row.toRowW d [] (fun f vs => PySem.call f vs) := by
  apply Att.attach_callB hn hdf
  intro w s₀ s₁ mg mb fa o pm cd doc a vs ns G Y ho hd hcd hmg hobj hints hlen hbits hg
  obtain ⟨K, KX, fd, cs, sp, h1, h2, h3, h4, h5, h6⟩ := F w mg fa _ Y G.T.g hmg
  exact law_G KX G.T.g G.T.b G.T.builtins G.T.nolimit hg h1 h2 h3 G.T.bmain hobj hints (Nat.le_trans hlen hn2) hr h6 h4 (fun H hH hS => h5 H a ns hlen hbits hH hS) fun H e s' => hCX w H s₁ e s'
end Mi
set_option Elab.async false
set_option linter.all false
set_option maxRecDepth 100000
set_option maxHeartbeats 4000000
namespace Mi
open PySem L2
structure Fx (K : Fg) (mg : Str → Option Value) where
  d__law_cell : DefF K mg "_law_cell" (top 37) ["_law_script", "_law_k"]
  d__law_rounds : DefF K mg "_law_rounds" (top 40) ["_law_script", "_law_high"]
  d__law_drawn : DefF K mg "_law_drawn" (top 38) ["_law_cell_here", "_law_k"]
  d__law_roll : DefF K mg "_law_roll" (top 39) ["_law_dice", "_law_many"]
  d__law_bench : DefF K mg "_law_bench" (top 44) ["_law_patterns", "_law_wanted"]
  d_is_word : DefF K mg "is_word" (top 20) ["thing"]
  d_is_whole : DefF K mg "is_whole" (top 19) ["thing", "low", "high"]
  d_is_pattern : DefF K mg "is_pattern" (top 25) ["thing"]
  d_is_tuple : DefF K mg "is_tuple" (top 21) ["thing", "many"]
  d_need_wanted : DefF K mg "need_wanted" (top 26) ["patterns", "wanted"]
  d_worked : DefF K mg "worked" (top 27) ["patterns", "wanted"]
  d_end_by : DefF K mg "end_by" (top 30) ["patterns", "wanted"]
  d_waited : DefF K mg "waited" (top 31) ["patterns", "wanted"]
  d__law_turns : DefF K mg "_law_turns" (top 43) ["_law_names"]
  d_need_few : DefF K mg "need_few" (top 32) ["wanted"]
  d_turns_of : DefF K mg "turns_of" (top 23) ["rows"]
  d_least_made : DefF K mg "least_made" (top 33) ["patterns", "wanted"]
  d_best_made : DefF K mg "best_made" (top 34) ["patterns", "wanted"]
  d_first_turn : DefF K mg "first_turn" (top 35) ["patterns", "wanted"]
  d__law_best_turn_right : DefF K mg "_law_best_turn_right" (top 45) ["_law_patterns", "_law_few"]
  d_bench_rows : DefF K mg "bench_rows" (top 28) ["patterns", "wanted"]
  d_mends : DefF K mg "mends" (top 29) ["patterns", "wanted"]
  d__law_term : DefF K mg "_law_term" (top 41) ["_law_e"]
  d__law_told : DefF K mg "_law_told" (top 42) ["_law_deed"]
  d_law : DefF K mg "law" (top 46) ["_law_script"]
  n_len : mg "len" = none
  n_range : mg "range" = none
  n_max : mg "max" = none
  n_min : mg "min" = none
  n_dict : mg "dict" = none
  n_sorted : mg "sorted" = none
  n_isinstance : mg "isinstance" = none
  n_str : mg "str" = none
  n_all : mg "all" = none
  n_int : mg "int" = none
  n_bool : mg "bool" = none
  n_tuple : mg "tuple" = none
  n_list : mg "list" = none
  n_sum : mg "sum" = none
  n_enumerate : mg "enumerate" = none
  n_ValueError : mg "ValueError" = none
  c_SMALL : ∃ t, mg "SMALL" = some (.str "abcdefghijklmnopqrstuvwxyz" t)
structure Zx {K : Fg} {mg : Str → Option Value} (Y : Fx K mg) (base : Heap) (T : Tb) : Prop where
  U : ToldF K mg nsX
  sy : sysB K = true
  mk_law : MkrF K mg base T Y.d_law.fd (qlam "law")
section
variable {P : Program} {w : World} {K : Fg} {mg : Str → Option Value} {base : Heap} {T : Tb}
theorem sc__law_told : FnScope ["_law_deed", "_law_e"] ["_law_deed"] (defScope (top 42)) := ⟨rfl, rfl, rfl, by decide +kernel, rfl, by decide +kernel, by decide +kernel⟩
theorem sc__law_term : FnScope NT ["_law_e"] (defScope (top 41)) := ⟨rfl, rfl, rfl, by decide +kernel, rfl, by decide +kernel, by decide +kernel⟩
theorem ok__law_term (Y : Fx K mg) (Z : Zx Y base T) : TermOk P w K mg base 1 Y.d__law_term.f Y.d__law_term.fd (KdOf K nsX) :=
  have nd := sc__law_term.nd
  term_of Y.d__law_term.F sc__law_term fun cdv A outer s H Q p cls hot hr hz hv h => by
    obtain ⟨name, ⟨hm, e⟩, q⟩ := h
    subst e
    have X1 := Z.U.x name hm
    have hp : p ∈ [p] := List.mem_cons_self
    exact ⟨_, (pss_cons (ps_set (i := 1) nd rfl (by first | exact Or.inl rfl | exact Or.inr rfl) (pe_lst (pa_cons (pe_isP X1.c hp hz hv (X1.k "BadWord" (by decide +kernel)) rfl Y.n_isinstance rfl (Z.U.g "BadWord" (by decide +kernel)) rfl (by first | exact Or.inl rfl | exact Or.inr (Or.inl rfl) | exact Or.inr (Or.inr rfl))) (pa_cons (pe_isP X1.c hp hz hv (X1.k "BadStuff" (by decide +kernel)) rfl Y.n_isinstance rfl (Z.U.g "BadStuff" (by decide +kernel)) rfl (by first | exact Or.inl rfl | exact Or.inr (Or.inl rfl) | exact Or.inr (Or.inr rfl))) (pa_cons (pe_isP X1.c hp hz hv (X1.k "BadWish" (by decide +kernel)) rfl Y.n_isinstance rfl (Z.U.g "BadWish" (by decide +kernel)) rfl (by first | exact Or.inl rfl | exact Or.inr (Or.inl rfl) | exact Or.inr (Or.inr rfl))) (pa_cons (pe_isP X1.c hp hz hv (X1.k "BadLoad" (by decide +kernel)) rfl Y.n_isinstance rfl (Z.U.g "BadLoad" (by decide +kernel)) rfl (by first | exact Or.inl rfl | exact Or.inr (Or.inl rfl) | exact Or.inr (Or.inr rfl))) pa_nil)))))) (pss_cons (ps_set (i := 1) nd rfl (by first | exact Or.inl rfl | exact Or.inr rfl) (pe_op op_catL (pv 1) (pe_lst (pa_cons (pe_isP X1.c hp hz hv (X1.k "BadNumber" (by decide +kernel)) rfl Y.n_isinstance rfl (Z.U.g "BadNumber" (by decide +kernel)) rfl (by first | exact Or.inl rfl | exact Or.inr (Or.inl rfl) | exact Or.inr (Or.inr rfl))) (pa_cons (pe_isP X1.c hp hz hv (X1.k "BadLots" (by decide +kernel)) rfl Y.n_isinstance rfl (Z.U.g "BadLots" (by decide +kernel)) rfl (by first | exact Or.inl rfl | exact Or.inr (Or.inl rfl) | exact Or.inr (Or.inr rfl))) (pa_cons (pe_isP X1.c hp hz hv (X1.k "BadCharge" (by decide +kernel)) rfl Y.n_isinstance rfl (Z.U.g "BadCharge" (by decide +kernel)) rfl (by first | exact Or.inl rfl | exact Or.inr (Or.inl rfl) | exact Or.inr (Or.inr rfl))) pa_nil)))))) (pss_cons (ps_set (i := 1) nd rfl (by first | exact Or.inl rfl | exact Or.inr rfl) (pe_op op_catL (pv 1) (pe_lst (pa_cons (pe_isP X1.c hp hz hv (X1.k "BadPaper" (by decide +kernel)) rfl Y.n_isinstance rfl (Z.U.g "BadPaper" (by decide +kernel)) rfl (by first | exact Or.inl rfl | exact Or.inr (Or.inl rfl) | exact Or.inr (Or.inr rfl))) pa_nil)))) (pss_cons (ps_set (i := 1) nd rfl (by first | exact Or.inl rfl | exact Or.inr rfl) (pe_op op_catL (pv 1) (pe_lst (pa_cons (pe_isP X1.c hp hz hv (X1.k "BadMoulds" (by decide +kernel)) rfl Y.n_isinstance rfl (Z.U.g "BadMoulds" (by decide +kernel)) rfl (by first | exact Or.inl rfl | exact Or.inr (Or.inl rfl) | exact Or.inr (Or.inr rfl))) (pa_cons (pe_isP X1.c hp hz hv (X1.k "Taken" (by decide +kernel)) rfl Y.n_isinstance rfl (Z.U.g "Taken" (by decide +kernel)) rfl (by first | exact Or.inl rfl | exact Or.inr (Or.inl rfl) | exact Or.inr (Or.inr rfl))) (pa_cons (pe_isP X1.c hp hz hv (X1.k "NoName" (by decide +kernel)) rfl Y.n_isinstance rfl (Z.U.g "NoName" (by decide +kernel)) rfl (by first | exact Or.inl rfl | exact Or.inr (Or.inl rfl) | exact Or.inr (Or.inr rfl))) (pa_cons (pe_isP X1.c hp hz hv (X1.k "TooMuch" (by decide +kernel)) rfl Y.n_isinstance rfl (Z.U.g "TooMuch" (by decide +kernel)) rfl (by first | exact Or.inl rfl | exact Or.inr (Or.inl rfl) | exact Or.inr (Or.inr rfl))) pa_nil))))))) (pss_cons (ps_set (i := 1) nd rfl (by first | exact Or.inl rfl | exact Or.inr rfl) (pe_op op_catL (pv 1) (pe_lst (pa_cons (pe_isP X1.c hp hz hv (X1.k "Nothing" (by decide +kernel)) rfl Y.n_isinstance rfl (Z.U.g "Nothing" (by decide +kernel)) rfl (by first | exact Or.inl rfl | exact Or.inr (Or.inl rfl) | exact Or.inr (Or.inr rfl))) (pa_cons (pe_isP X1.c hp hz hv (X1.k "Full" (by decide +kernel)) rfl Y.n_isinstance rfl (Z.U.g "Full" (by decide +kernel)) rfl (by first | exact Or.inl rfl | exact Or.inr (Or.inl rfl) | exact Or.inr (Or.inr rfl))) (pa_cons (pe_isP X1.c hp hz hv (X1.k "BadText" (by decide +kernel)) rfl Y.n_isinstance rfl (Z.U.g "BadText" (by decide +kernel)) rfl (by first | exact Or.inl rfl | exact Or.inr (Or.inl rfl) | exact Or.inr (Or.inr rfl))) pa_nil)))))) (pss_cons (ps_set (i := 2) nd rfl (by first | exact Or.inl rfl | exact Or.inr rfl) (pe_lst (pa_cons pe_str (pa_cons pe_str (pa_cons pe_str (pa_cons pe_str (pa_cons pe_str (pa_cons pe_str (pa_cons pe_str (pa_cons pe_str pa_nil)))))))))) (pss_cons (ps_set (i := 2) nd rfl (by first | exact Or.inl rfl | exact Or.inr rfl) (pe_op op_catL (pv 2) (pe_lst (pa_cons pe_str (pa_cons pe_str (pa_cons pe_str (pa_cons pe_str (pa_cons pe_str (pa_cons pe_str (pa_cons pe_str pa_nil)))))))))) (pss_cons (ps_if (PW.pt (pw_or (pt_cmpR op_ne (pe_callB (call_sumP ⟨p, hot, hp⟩) rfl Y.n_sum bt_sum (pa_cons (pe_lcH (own := [("_law_flag", 3)]) ⟨p, hot, hp⟩ rfl rfl nd (pv 1) (blk_of [("_law_flag", 3)] rfl) (fun s H C cl fp => pg_name (i := 3) nd rfl (by first | exact Or.inl rfl | exact Or.inr rfl)) (fun s H C cl fp => pts_nil) (fun s H C cl fp => pe_callTy call_int1 rfl Y.n_int bt_int (pa_cons (pv 3) pa_nil))) pa_nil)) pe_int (nomark _)) (pw_or1 (pt_not (pt_val (pe_isV X1.c hp hz hv X1.v rfl Y.n_isinstance rfl Y.n_ValueError rfl (by first | exact Or.inl rfl | exact Or.inr (Or.inl rfl) | exact Or.inr (Or.inr rfl)))))))) (pss_one (ps_ret (pe_tupF (pa_cons pe_str (pa_cons pe_str pa_nil))))) pss_nil) (pss_one (ps_ret (pe_tupF (pa_cons pe_str (pa_cons (pe_ix ix_list (pv 2) (pe_bm PySem.F.plainAttrs_list PySem.F.slot_list_index PySem.F.type_list_index mt_index (pv 1) (pa_cons pe_bl pa_nil)) (fun _ _ => rfl)) pa_nil))))))))))))), term_reads X1.m q⟩
theorem sc__law_cell : FnScope ["_law_script", "_law_k"] ["_law_script", "_law_k"] (defScope (top 37)) := ⟨rfl, rfl, rfl, by decide +kernel, rfl, by decide +kernel, by decide +kernel⟩
theorem ok__law_cell (Y : Fx K mg) (Z : Zx Y base T) : FnOk P w K mg base (L2N.CX P w) 1 Y.d__law_cell.f Y.d__law_cell.fd ["_law_script", "_law_k"] (spCell K) :=
  okN Y.d__law_cell.F sc__law_cell (fun vs H Q E ⟨a, k, ns, h, _⟩ => by rw [h]; rfl) fun cdv hcd A outer s H vs Q E hr h => ⟨_, pss_cons (ps_if (pt_cmpR (op_eqD hr.units) (pv 0) (pe_lst pa_nil) (nomark _)) (pss_one (ps_ret (pe_op op_mul (pv 1) pe_int))) pss_nil)
    (pss_one (ps_ret (pe_op op_add (pe_ix ix_list (pv 0) (pe_op op_mod (pv 1) (pe_callB call_len_seq rfl Y.n_len bt_len (pa_cons (pv 0) pa_nil))) (fun _ _ => rfl)) (pe_op op_mul (pe_op op_fdiv (pv 1) (pe_callB call_len_seq rfl Y.n_len bt_len (pa_cons (pv 0) pa_nil))) pe_int)))), cell_reads h⟩
theorem sc__law_rounds : FnScope ["_law_script", "_law_high", "_law_k"] ["_law_script", "_law_high"] (defScope (top 40)) := ⟨rfl, rfl, rfl, by decide +kernel, rfl, by decide +kernel, by decide +kernel⟩
theorem ok__law_rounds (Y : Fx K mg) (Z : Zx Y base T) : FnOk P w K mg base (L2N.CX P w) 2 Y.d__law_rounds.f Y.d__law_rounds.fd ["_law_script", "_law_high"] (spRounds K) :=
  okN Y.d__law_rounds.F sc__law_rounds (fun vs H Q E ⟨a, k, ns, h, _⟩ => by rw [h]; rfl) fun cdv hcd A outer s H vs Q E hr h => ⟨_, pss_one (ps_ret (pe_lc (own := [("_law_k", 2)]) rfl sc__law_rounds.nd (pi_range1 rfl Y.n_range (pa_cons (pe_callB (call_max2 rfl) rfl Y.n_max bt_max (pa_cons pe_int (pa_cons (pe_callB (call_min2 rfl) rfl Y.n_min bt_min (pa_cons (pv 1) (pa_cons (pe_callB call_len_seq rfl Y.n_len bt_len (pa_cons (pv 0) pa_nil)) pa_nil))) pa_nil))) pa_nil)) (blk_of [("_law_k", 2)] rfl)
    (fun s H C cl fp => pg_name (i := 2) sc__law_rounds.nd rfl (by first | exact Or.inl rfl | exact Or.inr rfl)) (fun s H C cl fp => pts_nil) (fun s H C cl fp => pe_lst (pa_cons (pe_callS (ok__law_cell Y Z) (hr.mono (by decide)) rfl Y.d__law_cell.g Y.d__law_cell.F.kp Y.d__law_cell.b (fun σ => L2N.passAt takes0 σ) (pa_cons (pv 0) (pa_cons (pv 2) pa_nil))) (pa_cons pe_int pa_nil))))), rounds_reads h⟩
def b__law_drawn : MM Fl := (seqS (asgS (op2 dMod (op2 dAdd (op2 dMul (var 0) (MM.pure (.int 6364136223846793005))) (op2 dMul (op2 dAdd (var 1) (MM.pure (.int 1))) (MM.pure (.int 1442695040888963407)))) (MM.pure (.int 340282366920938463463374607431768211507))) (setD 2)) (seqS (asgS (op2 dMod (op2 dMul (var 2) (var 2)) (MM.pure (.int 340282366920938463463374607431768211297))) (setD 2)) (seqS (asgS (op2 dMul (op2 dMul (op2 dAdd (op2 dMod (var 2) (MM.pure (.int 18446744073709551557))) (MM.pure (.int 1))) (op2 dAdd (op2 dFdiv (var 2) (MM.pure (.int 18446744073709551557))) (MM.pure (.int 1)))) (var 2)) (setD 2)) (retS (op2 dMod (var 2) (MM.pure (.int 340282366920938463463374607431768211507)))))))
def m__law_drawn : List D → Res D := runF 3 2 b__law_drawn
theorem sc__law_drawn : FnScope ["_law_cell_here", "_law_k", "_law_more"] ["_law_cell_here", "_law_k"] (defScope (top 38)) := ⟨rfl, rfl, rfl, by decide +kernel, rfl, by decide +kernel, by decide +kernel⟩
theorem ok__law_drawn (Y : Fx K mg) (Z : Zx Y base T) : FnOk P w K mg base (L2N.CX P w) 1 Y.d__law_drawn.f Y.d__law_drawn.fd ["_law_cell_here", "_law_k"] (spF K T m__law_drawn) :=
  have nd := sc__law_drawn.nd
  fn_def Y.d__law_drawn.F sc__law_drawn fun cdv hcd A outer s H E c hr =>
    (ms_seq (ms_set (i := 2) nd rfl (by first | exact Or.inl rfl | exact Or.inr rfl) (me_op o_mod (me_op o_add (me_op o_mul (mv 0) me_int) (me_op o_mul (me_op o_add (mv 1) me_int) me_int)) me_int)) (ms_seq (ms_set (i := 2) nd rfl (by first | exact Or.inl rfl | exact Or.inr rfl) (me_op o_mod (me_op o_mul (mv 2) (mv 2)) me_int)) (ms_seq (ms_set (i := 2) nd rfl (by first | exact Or.inl rfl | exact Or.inr rfl) (me_op o_mul (me_op o_mul (me_op o_add (me_op o_mod (mv 2) me_int) me_int) (me_op o_add (me_op o_fdiv (mv 2) me_int) me_int)) (mv 2))) (ms_one (ms_ret (me_op o_mod (mv 2) me_int))))))
def b__law_roll : MM Fl := (seqS (ifS (opT dGe (borrow (op2 dIx (var 0) (MM.pure (.int 0)))) (op2 dPow (MM.pure (.int 10)) (MM.pure (.int 18)))) (seqS (asgS (op2 dMod (borrow (op2 dIx (var 0) (MM.pure (.int 0)))) (var 1)) (setD 2)) (seqS (dsetS 0 0 (op2 dFdiv (borrow (op2 dIx (var 0) (MM.pure (.int 0)))) (var 1))) (retS (var 2)))) (MM.pure .nx)) (seqS (dsetS 0 1 (op2 dAdd (borrow (op2 dIx (var 0) (MM.pure (.int 1)))) (MM.pure (.int 1)))) (retS (op2 dMod (op2 dFdiv (callE m__law_drawn (consA (borrow (op2 dIx (var 0) (MM.pure (.int 0)))) (consA (borrow (op2 dIx (var 0) (MM.pure (.int 1)))) (MM.pure [])))) (MM.pure (.int 8))) (var 1)))))
def m__law_roll : List D → List D → Res (D × List D) := runO 3 2 b__law_roll
theorem sc__law_roll : FnScope ["_law_dice", "_law_many", "_law_told_here"] ["_law_dice", "_law_many"] (defScope (top 39)) := ⟨rfl, rfl, rfl, by decide +kernel, rfl, by decide +kernel, by decide +kernel⟩
theorem ok__law_roll (Y : Fx K mg) (Z : Zx Y base T) : FnOk P w K mg base (L2N.CX P w) 2 Y.d__law_roll.f Y.d__law_roll.fd ["_law_dice", "_law_many"] (spO K T m__law_roll) :=
  have nd := sc__law_roll.nd
  fn_defO Y.d__law_roll.F sc__law_roll fun cdv hcd A outer s H E c hr =>
    (ms_seq (ms_if (mt_cmp o_ge (me_borrow fun c => (me_ix (hu_of hr) (mv 0) me_int (fun _ _ => rfl))) (me_op o_pow me_int me_int) (nomark _)) (ms_seq (ms_set (i := 2) nd rfl (by first | exact Or.inl rfl | exact Or.inr rfl) (me_op o_mod (me_borrow fun c => (me_ix (hu_of hr) (mv 0) me_int (fun _ _ => rfl))) (mv 1))) (ms_seq (ms_dset (i := 0) (k := 0) rfl (by first | exact Or.inl rfl | exact Or.inr (Or.inl rfl) | exact Or.inr (Or.inr rfl)) (me_op o_fdiv (me_borrow fun c => (me_ix (hu_of hr) (mv 0) me_int (fun _ _ => rfl))) (mv 1))) (ms_one (ms_ret (mv 2))))) ms_nil) (ms_seq (ms_dset (i := 0) (k := 1) rfl (by first | exact Or.inl rfl | exact Or.inr (Or.inl rfl) | exact Or.inr (Or.inr rfl)) (me_op o_add (me_borrow fun c => (me_ix (hu_of hr) (mv 0) me_int (fun _ _ => rfl))) me_int)) (ms_one (ms_ret (me_op o_mod (me_op o_fdiv (me_call (ok__law_drawn Y Z) (hr.mono (by decide)) rfl Y.d__law_drawn.g Y.d__law_drawn.F.kp Y.d__law_drawn.b (L2N.takes_of rfl rfl rfl rfl) (ma_cons (me_borrow fun c => (me_ix (hu_of hr) (mv 0) me_int (fun _ _ => rfl))) (ma_cons (me_borrow fun c => (me_ix (hu_of hr) (mv 0) me_int (fun _ _ => rfl))) ma_nil))) me_int) (mv 1))))))
def c__law_bench_1 : MM D := (MM.bind (consA (var 8) (consA (MM.pure (.int 0)) (MM.pure []))) fun xs => lift (mkT xs))
def c__law_bench_2 : MM D := (MM.bind (consA (var 8) (consA (MM.pure (.int 0)) (MM.pure []))) fun xs => lift (mkT xs))
def b__law_bench : MM Fl := (seqS (parL [2, 3, 4, 5] (consS (MM.pure (.ol [])) (consS (MM.pure (.ol [])) (consD (MM.pure (.int 0)) (consD (MM.pure (.int 0)) (MM.pure [])))))) (seqS (parL [6, 7] (consS (MM.bind (consA (MM.bind (iterA (var 0)) (compL [8] (setD 8) (MM.pure true) c__law_bench_1)) (MM.pure [])) fun ds => lift (mkOD ds)) (consS (MM.bind (consA (MM.bind (iterA (var 0)) (compL [8] (setD 8) (MM.pure true) c__law_bench_2)) (MM.pure [])) fun ds => lift (mkOD ds)) (MM.pure [])))) (seqS (fun ρ => whileD (opT dLt (var 5) (callE dLen (consA (var 1) (MM.pure [])))) (seqS (asgS (op2 dIx (var 1) (var 5)) (setT [8, 9])) (ifS (opT dGt (oixE 7 (var 8)) (var 4)) (asgS (op2 dAdd (var 4) (MM.pure (.int 1))) (setD 4)) (seqS (appS 2 (MM.bind (consA (var 8) (consA (var 4) (consA (op2 dAdd (var 4) (var 9)) (MM.pure [])))) fun xs => lift (mkT xs))) (seqS (parL [4, 5] (consD (op2 dAdd (var 4) (var 9)) (consD (op2 dAdd (var 5) (MM.pure (.int 1))) (MM.pure [])))) (seqS (putS 6 (op2 dAdd (oixE 6 (var 8)) (MM.pure (.int 1))) (var 8)) (ifS (opT dEq (oixE 6 (var 8)) (op2 dIx (op2 dIx (var 0) (var 8)) (MM.pure (.int 0)))) (seqS (put2S 6 7 (var 8) (var 8) (consA (MM.pure (.int 0)) (consA (op2 dAdd (var 4) (op2 dIx (op2 dIx (var 0) (var 8)) (MM.pure (.int 1)))) (MM.pure [])))) (appS 3 (MM.bind (consA (var 4) (consA (var 8) (consA (oixE 7 (var 8)) (MM.pure [])))) fun xs => lift (mkT xs)))) (MM.pure .nx))))))) ((fun _ => 1000) ρ) ρ) (frzM 2 (frzM 3 (frzM 6 (fun ρ => (retS (MM.bind (consA (var 2) (consA (callE dSorted (consA (var 3) (MM.pure []))) (MM.pure []))) fun xs => lift (mkT xs))) (frzS 7 ρ))))))))
def m__law_bench : List D → Res D := runF 10 2 b__law_bench
theorem sc__law_bench : FnScope ["_law_patterns", "_law_wanted", "_law_rows", "_law_mended", "_law_now", "_law_at", "_law_since", "_law_shut", "_law_name", "_law_beats"] ["_law_patterns", "_law_wanted"] (defScope (top 44)) := ⟨rfl, rfl, rfl, by decide +kernel, rfl, by decide +kernel, by decide +kernel⟩
theorem ok__law_bench (Y : Fx K mg) (Z : Zx Y base T) : FnOk P w K mg base (L2N.CX P w) 1 Y.d__law_bench.f Y.d__law_bench.fd ["_law_patterns", "_law_wanted"] (spF K T m__law_bench) :=
  have nd := sc__law_bench.nd
  fn_def Y.d__law_bench.F sc__law_bench fun cdv hcd A outer s H E c hr =>
    (ms_seq (ms_unpk rfl nd (pnc 2 (pnc 3 (pnc 4 (pnc 5 PNs.nil)))) (ml_own mo_newL fun c => (ml_own mo_newL fun c => (ml_dat me_int (ml_dat me_int ml_nil))))) (ms_seq (ms_parL (i := 6) (k := 7) rfl nd rfl rfl (by decide) rfl rfl (ml_own (mo_dict rfl rfl Y.n_dict (ma_cons (me_lc rfl nd (mi_all (mv 0)) (blk_of [("_law_name", 8)] rfl) rfl (fun c s H C cl fp => (mgn 8 nd)) (fun c s H C cl fp => mts_nil) (fun c s H C cl fp => (me_tup (ma_cons (mv 8) (ma_cons me_int ma_nil))))) ma_nil)) fun c => (ml_own (mo_dict rfl rfl Y.n_dict (ma_cons (me_lc rfl nd (mi_all (mv 0)) (blk_of [("_law_name", 8)] rfl) rfl (fun c s H C cl fp => (mgn 8 nd)) (fun c s H C cl fp => mts_nil) (fun c s H C cl fp => (me_tup (ma_cons (mv 8) (ma_cons me_int ma_nil))))) ma_nil)) fun c => ml_nil)) rfl) (ms_seq (ms_while (fun _ => 1000) (passes_of rfl) (mt_cmp o_lt (mv 5) (me_callB b_len rfl Y.n_len bt_len (ma_cons (mv 1) ma_nil)) (nomark _)) (ms_seq (ms_asg (me_ix (hu_of hr) (mv 1) (mv 5) (fun _ _ => rfl)) (mg_tupD rfl (mgc 8 nd (mgc 9 nd mgs_nil)))) (ms_one (ms_if (mt_cmp o_gt (me_oix (i := 7) (hu_of hr) rfl (by first | exact Or.inl rfl | exact Or.inr (Or.inl rfl) | exact Or.inr (Or.inr rfl)) (mv 8) (by first | (intro _ _ _; rfl) | (intro _ _; rfl))) (mv 4) (nomark _)) (ms_one (ms_set (i := 4) nd rfl (by first | exact Or.inl rfl | exact Or.inr rfl) (me_op o_add (mv 4) me_int))) (ms_seq (ms_append (i := 2) rfl (by first | exact Or.inl rfl | exact Or.inr (Or.inl rfl) | exact Or.inr (Or.inr rfl)) (me_tup (ma_cons (mv 8) (ma_cons (mv 4) (ma_cons (me_op o_add (mv 4) (mv 9)) ma_nil))))) (ms_seq (ms_parL (i := 4) (k := 5) rfl nd rfl rfl (by decide) rfl rfl (ml_dat (me_op o_add (mv 4) (mv 9)) (ml_dat (me_op o_add (mv 5) me_int) ml_nil)) rfl) (ms_seq (ms_put (i := 6) (hu_of hr) rfl (by first | exact Or.inl rfl | exact Or.inr (Or.inl rfl) | exact Or.inr (Or.inr rfl)) (mv 8) (me_op o_add (me_oix (i := 6) (hu_of hr) rfl (by first | exact Or.inl rfl | exact Or.inr (Or.inl rfl) | exact Or.inr (Or.inr rfl)) (mv 8) (by first | (intro _ _ _; rfl) | (intro _ _; rfl))) me_int)) (ms_one (ms_if (mt_cmp (o_eq hr.units) (me_oix (i := 6) (hu_of hr) rfl (by first | exact Or.inl rfl | exact Or.inr (Or.inl rfl) | exact Or.inr (Or.inr rfl)) (mv 8) (by first | (intro _ _ _; rfl) | (intro _ _; rfl))) (me_ix (hu_of hr) (me_ix (hu_of hr) (mv 0) (mv 8) (fun _ _ => rfl)) me_int (fun _ _ => rfl)) (nomark _)) (ms_seq (ms_put2 (i := 6) (j := 7) (hu_of hr) rfl rfl (by first | exact Or.inl rfl | exact Or.inr (Or.inl rfl) | exact Or.inr (Or.inr rfl)) rfl (by first | exact Or.inl rfl | exact Or.inr (Or.inl rfl) | exact Or.inr (Or.inr rfl)) (mv 8) (mv 8) (ma_cons me_int (ma_cons (me_op o_add (mv 4) (me_ix (hu_of hr) (me_ix (hu_of hr) (mv 0) (mv 8) (fun _ _ => rfl)) me_int (fun _ _ => rfl))) ma_nil))) (ms_one (ms_append (i := 3) rfl (by first | exact Or.inl rfl | exact Or.inr (Or.inl rfl) | exact Or.inr (Or.inr rfl)) (me_tup (ma_cons (mv 4) (ma_cons (mv 8) (ma_cons (me_oix (i := 7) (hu_of hr) rfl (by first | exact Or.inl rfl | exact Or.inr (Or.inl rfl) | exact Or.inr (Or.inr rfl)) (mv 8) (by first | (intro _ _ _; rfl) | (intro _ _; rfl))) ma_nil))))))) ms_nil))))))))) (ms_frzM 2 (ms_frzM 3 (ms_frzM 6 (ms_freeze 7 (ms_one (ms_ret (me_tup (ma_cons (mv 2) (ma_cons (me_callB (b_sorted rfl hr.units) rfl Y.n_sorted bt_sorted (ma_cons (mv 3) ma_nil)) ma_nil))))))))))))
def c_is_word_1 : MM D := (op2 dIn (var 1) (MM.pure (.str "abcdefghijklmnopqrstuvwxyz")))
def b_is_word : MM Fl := (retS (andV (isiE isStr (var 0)) (andV (chainV dLe dLe (MM.pure (.int 1)) (callE dLen (consA (var 0) (MM.pure []))) (MM.pure (.int 8))) (callE dAll (consA (MM.bind (iterA (var 0)) (compL [1] (setD 1) (MM.pure true) c_is_word_1)) (MM.pure []))))))
def m_is_word : List D → Res D := runF 2 1 b_is_word
theorem sc_is_word : FnScope ["thing", "sign"] ["thing"] (defScope (top 20)) := ⟨rfl, rfl, rfl, by decide +kernel, rfl, by decide +kernel, by decide +kernel⟩
theorem ok_is_word (Y : Fx K mg) (Z : Zx Y base T) : FnOk P w K mg base (L2N.CX P w) 1 Y.d_is_word.f Y.d_is_word.fd ["thing"] (spF K T m_is_word) :=
  have nd := sc_is_word.nd
  fn_def Y.d_is_word.F sc_is_word fun cdv hcd A outer s H E c hr =>
    (ms_one (ms_ret (me_and (me_isi kit_str rfl Y.n_isinstance rfl Y.n_str bt_str (mv 0) bt_isinstance) (me_and (me_chain o_le o_le me_int (me_callB b_len rfl Y.n_len bt_len (ma_cons (mv 0) ma_nil)) me_int) (me_one (me_callB (b_all rfl) rfl Y.n_all bt_all (ma_cons (me_lc rfl nd (mi_all (mv 0)) (blk_of [("sign", 1)] rfl) rfl (fun c s H C cl fp => (mgn 1 nd)) (fun c s H C cl fp => mts_nil) (fun c s H C cl fp => (me_cmp (o_in (hu_of hr)) (mv 1) (me_gstr rfl Y.c_SMALL) (by rfl)))) ma_nil)))))))
def b_is_whole : MM Fl := (retS (andV (isiE isInt (var 0)) (andV (notV (isiE isBool (var 0))) (chainV dLe dLe (var 1) (var 0) (var 2)))))
def m_is_whole : List D → Res D := runF 3 3 b_is_whole
theorem sc_is_whole : FnScope ["thing", "low", "high"] ["thing", "low", "high"] (defScope (top 19)) := ⟨rfl, rfl, rfl, by decide +kernel, rfl, by decide +kernel, by decide +kernel⟩
theorem ok_is_whole (Y : Fx K mg) (Z : Zx Y base T) : FnOk P w K mg base (L2N.CX P w) 1 Y.d_is_whole.f Y.d_is_whole.fd ["thing", "low", "high"] (spF K T m_is_whole) :=
  have nd := sc_is_whole.nd
  fn_def Y.d_is_whole.F sc_is_whole fun cdv hcd A outer s H E c hr =>
    (ms_one (ms_ret (me_and (me_isi kit_int rfl Y.n_isinstance rfl Y.n_int bt_int (mv 0) bt_isinstance) (me_and (me_not (me_isi kit_bool rfl Y.n_isinstance rfl Y.n_bool bt_bool (mv 0) bt_isinstance)) (me_one (me_chain o_le o_le (mv 1) (mv 0) (mv 2)))))))
def b_is_pattern : MM Fl := (retS (andV (isiE isTup (var 0)) (andV (op2 dEq (callE dLen (consA (var 0) (MM.pure []))) (MM.pure (.int 2))) (andV (callE m_is_whole (consA (op2 dIx (var 0) (MM.pure (.int 0))) (consA (MM.pure (.int 1)) (consA (MM.pure (.int 20)) (MM.pure []))))) (callE m_is_whole (consA (op2 dIx (var 0) (MM.pure (.int 1))) (consA (MM.pure (.int 0)) (consA (MM.pure (.int 99)) (MM.pure [])))))))))
def m_is_pattern : List D → Res D := runF 1 1 b_is_pattern
theorem sc_is_pattern : FnScope ["thing"] ["thing"] (defScope (top 25)) := ⟨rfl, rfl, rfl, by decide +kernel, rfl, by decide +kernel, by decide +kernel⟩
theorem ok_is_pattern (Y : Fx K mg) (Z : Zx Y base T) : FnOk P w K mg base (L2N.CX P w) 2 Y.d_is_pattern.f Y.d_is_pattern.fd ["thing"] (spF K T m_is_pattern) :=
  have nd := sc_is_pattern.nd
  fn_def Y.d_is_pattern.F sc_is_pattern fun cdv hcd A outer s H E c hr =>
    (ms_one (ms_ret (me_and (me_isi kit_tup rfl Y.n_isinstance rfl Y.n_tuple bt_tuple (mv 0) bt_isinstance) (me_and (me_cmp (o_eq hr.units) (me_callB b_len rfl Y.n_len bt_len (ma_cons (mv 0) ma_nil)) me_int (nomark _)) (me_and (me_call (ok_is_whole Y Z) (hr.mono (by decide)) rfl Y.d_is_whole.g Y.d_is_whole.F.kp Y.d_is_whole.b (L2N.takes_of rfl rfl rfl rfl) (ma_cons (me_ix (hu_of hr) (mv 0) me_int (fun _ _ => rfl)) (ma_cons me_int (ma_cons me_int ma_nil)))) (me_one (me_call (ok_is_whole Y Z) (hr.mono (by decide)) rfl Y.d_is_whole.g Y.d_is_whole.F.kp Y.d_is_whole.b (L2N.takes_of rfl rfl rfl rfl) (ma_cons (me_ix (hu_of hr) (mv 0) me_int (fun _ _ => rfl)) (ma_cons me_int (ma_cons me_int ma_nil))))))))))
def b_is_tuple : MM Fl := (retS (andV (isiE isTup (var 0)) (andV (op2 dEq (callE dLen (consA (var 0) (MM.pure []))) (var 1)) (callE m_is_word (consA (op2 dIx (var 0) (MM.pure (.int 0))) (MM.pure []))))))
def m_is_tuple : List D → Res D := runF 2 2 b_is_tuple
theorem sc_is_tuple : FnScope ["thing", "many"] ["thing", "many"] (defScope (top 21)) := ⟨rfl, rfl, rfl, by decide +kernel, rfl, by decide +kernel, by decide +kernel⟩
theorem ok_is_tuple (Y : Fx K mg) (Z : Zx Y base T) : FnOk P w K mg base (L2N.CX P w) 2 Y.d_is_tuple.f Y.d_is_tuple.fd ["thing", "many"] (spF K T m_is_tuple) :=
  have nd := sc_is_tuple.nd
  fn_def Y.d_is_tuple.F sc_is_tuple fun cdv hcd A outer s H E c hr =>
    (ms_one (ms_ret (me_and (me_isi kit_tup rfl Y.n_isinstance rfl Y.n_tuple bt_tuple (mv 0) bt_isinstance) (me_and (me_cmp (o_eq hr.units) (me_callB b_len rfl Y.n_len bt_len (ma_cons (mv 0) ma_nil)) (mv 1) (nomark _)) (me_one (me_call (ok_is_word Y Z) (hr.mono (by decide)) rfl Y.d_is_word.g Y.d_is_word.F.kp Y.d_is_word.b (L2N.takes_of rfl rfl rfl rfl) (ma_cons (me_ix (hu_of hr) (mv 0) me_int (fun _ _ => rfl)) ma_nil)))))))
def c_need_wanted_1 : MM D := (andV (callE m_is_word (consA (var 2) (MM.pure []))) (callE m_is_pattern (consA (op2 dIx (var 0) (var 2)) (MM.pure []))))
def c_need_wanted_2 : MM D := (andV (callE m_is_tuple (consA (var 3) (consA (MM.pure (.int 2)) (MM.pure [])))) (andV (op2 dIn (op2 dIx (var 3) (MM.pure (.int 0))) (var 0)) (callE m_is_whole (consA (op2 dIx (var 3) (MM.pure (.int 1))) (consA (MM.pure (.int 1)) (consA (MM.pure (.int 99)) (MM.pure [])))))))
def b_need_wanted : MM Fl := (seqS (ifS (orT (notT (tst (isiE isDic (var 0)))) (notT (tst (chainV dLe dLe (MM.pure (.int 1)) (callE dLen (consA (var 0) (MM.pure []))) (MM.pure (.int 6)))))) (raiseS "BadLots") (MM.pure .nx)) (seqS (ifS (notT (tst (callE dAll (consA (MM.bind (iterA (var 0)) (compL [2] (setD 2) (MM.pure true) c_need_wanted_1)) (MM.pure []))))) (raiseS "BadLots") (MM.pure .nx)) (seqS (ifS (orT (notT (tst (isiE isLst (var 1)))) (opT dGt (callE dLen (consA (var 1) (MM.pure []))) (MM.pure (.int 20)))) (raiseS "BadMoulds") (MM.pure .nx)) (ifS (notT (tst (callE dAll (consA (MM.bind (iterA (var 1)) (compL [3] (setD 3) (MM.pure true) c_need_wanted_2)) (MM.pure []))))) (raiseS "BadMoulds") (MM.pure .nx)))))
def m_need_wanted : List D → Res D := runF 4 2 b_need_wanted
theorem sc_need_wanted : FnScope ["patterns", "wanted", "name", "one"] ["patterns", "wanted"] (defScope (top 26)) := ⟨rfl, rfl, rfl, by decide +kernel, rfl, by decide +kernel, by decide +kernel⟩
theorem ok_need_wanted (Y : Fx K mg) (Z : Zx Y base T) : FnOk P w K mg base (L2N.CX P w) 3 Y.d_need_wanted.f Y.d_need_wanted.fd ["patterns", "wanted"] (spF K T m_need_wanted) :=
  have nd := sc_need_wanted.nd
  fn_def Y.d_need_wanted.F sc_need_wanted fun cdv hcd A outer s H E c hr =>
    (ms_seq (ms_if (PW.pt (mw_or (mt_not (mt_val (me_isi kit_dic rfl Y.n_isinstance rfl Y.n_dict bt_dict (mv 0) bt_isinstance))) (mw_or1 (mt_not (mt_chain o_le o_le me_int (me_callB b_len rfl Y.n_len bt_len (ma_cons (mv 0) ma_nil)) me_int))))) (ms_one (ms_raise rfl (L2N.takes_of rfl rfl rfl rfl) (Z.U.x "BadLots" (by decide +kernel)).o (Z.U.g "BadLots" (by decide +kernel)) rfl)) ms_nil) (ms_seq (ms_if (mt_not (mt_val (me_callB (b_all rfl) rfl Y.n_all bt_all (ma_cons (me_lc rfl nd (mi_all (mv 0)) (blk_of [("name", 2)] rfl) rfl (fun c s H C cl fp => (mgn 2 nd)) (fun c s H C cl fp => mts_nil) (fun c s H C cl fp => (me_and (me_call (ok_is_word Y Z) (hr.mono (by decide)) rfl Y.d_is_word.g Y.d_is_word.F.kp Y.d_is_word.b takes0 (ma_cons (mv 2) ma_nil)) (me_one (me_call (ok_is_pattern Y Z) (hr.mono (by decide)) rfl Y.d_is_pattern.g Y.d_is_pattern.F.kp Y.d_is_pattern.b takes0 (ma_cons (me_ix (hu_of hr) (mv 0) (mv 2) (fun _ _ => rfl)) ma_nil)))))) ma_nil)))) (ms_one (ms_raise rfl (L2N.takes_of rfl rfl rfl rfl) (Z.U.x "BadLots" (by decide +kernel)).o (Z.U.g "BadLots" (by decide +kernel)) rfl)) ms_nil) (ms_seq (ms_if (PW.pt (mw_or (mt_not (mt_val (me_isi kit_lst rfl Y.n_isinstance rfl Y.n_list bt_list (mv 1) bt_isinstance))) (mw_or1 (mt_cmp o_gt (me_callB b_len rfl Y.n_len bt_len (ma_cons (mv 1) ma_nil)) me_int (nomark _))))) (ms_one (ms_raise rfl (L2N.takes_of rfl rfl rfl rfl) (Z.U.x "BadMoulds" (by decide +kernel)).o (Z.U.g "BadMoulds" (by decide +kernel)) rfl)) ms_nil) (ms_one (ms_if (mt_not (mt_val (me_callB (b_all rfl) rfl Y.n_all bt_all (ma_cons (me_lc rfl nd (mi_all (mv 1)) (blk_of [("one", 3)] rfl) rfl (fun c s H C cl fp => (mgn 3 nd)) (fun c s H C cl fp => mts_nil) (fun c s H C cl fp => (me_and (me_call (ok_is_tuple Y Z) (hr.mono (by decide)) rfl Y.d_is_tuple.g Y.d_is_tuple.F.kp Y.d_is_tuple.b takes0 (ma_cons (mv 3) (ma_cons me_int ma_nil))) (me_and (me_cmp (o_in (hu_of hr)) (me_ix (hu_of hr) (mv 3) me_int (fun _ _ => rfl)) (mv 0) (by rfl)) (me_one (me_call (ok_is_whole Y Z) (hr.mono (by decide)) rfl Y.d_is_whole.g Y.d_is_whole.F.kp Y.d_is_whole.b takes0 (ma_cons (me_ix (hu_of hr) (mv 3) me_int (fun _ _ => rfl)) (ma_cons me_int (ma_cons me_int ma_nil))))))))) ma_nil)))) (ms_one (ms_raise rfl (L2N.takes_of rfl rfl rfl rfl) (Z.U.x "BadMoulds" (by decide +kernel)).o (Z.U.g "BadMoulds" (by decide +kernel)) rfl)) ms_nil)))))
def c_worked_1 : MM D := (var 7)
def c_worked_2 : MM D := (MM.pure (.int 0))
def c_worked_3 : MM D := (var 7)
def c_worked_4 : MM D := (MM.pure (.int 0))
def b_worked_1 : MM Fl := (seqS (asgS (callE dMax (consA (var 4) (consA (oixE 3 (var 7)) (MM.pure [])))) (setD 9)) (seqS (asgS (op2 dAdd (var 9) (var 8)) (setD 4)) (seqS (appS 5 (MM.bind (consA (var 7) (consA (var 9) (consA (var 4) (MM.pure [])))) fun xs => lift (mkT xs))) (seqS (putS 2 (op2 dAdd (oixE 2 (var 7)) (MM.pure (.int 1))) (var 7)) (ifS (opT dEq (oixE 2 (var 7)) (op2 dIx (op2 dIx (var 0) (var 7)) (MM.pure (.int 0)))) (seqS (put2S 2 3 (var 7) (var 7) (consA (MM.pure (.int 0)) (consA (op2 dAdd (var 4) (op2 dIx (op2 dIx (var 0) (var 7)) (MM.pure (.int 1)))) (MM.pure [])))) (appS 6 (MM.bind (consA (var 4) (consA (var 7) (consA (oixE 3 (var 7)) (MM.pure [])))) fun xs => lift (mkT xs)))) (MM.pure .nx))))))
def b_worked : MM Fl := (seqS (parL [2, 3, 4] (consS (MM.bind (iterA (var 0)) (compO [7] (setD 7) (MM.pure true) c_worked_1 c_worked_2)) (consS (MM.bind (iterA (var 0)) (compO [7] (setD 7) (MM.pure true) c_worked_3 c_worked_4)) (consD (MM.pure (.int 0)) (MM.pure []))))) (seqS (parL [5, 6] (consS (MM.pure (.ol [])) (consS (MM.pure (.ol [])) (MM.pure [])))) (seqS (MM.bind (iterA (var 1)) (forD (setT [7, 8]) b_worked_1)) (frzM 2 (frzM 3 (frzM 5 (fun ρ => (retS (MM.bind (consA (var 5) (consA (callE dSorted (consA (var 6) (MM.pure []))) (MM.pure []))) fun xs => lift (mkT xs))) (frzS 6 ρ))))))))
def m_worked : List D → Res D := runF 10 2 b_worked
theorem sc_worked : FnScope ["patterns", "wanted", "used", "free", "now", "rows", "mended", "name", "beats", "begin"] ["patterns", "wanted"] (defScope (top 27)) := ⟨rfl, rfl, rfl, by decide +kernel, rfl, by decide +kernel, by decide +kernel⟩
theorem ok_worked (Y : Fx K mg) (Z : Zx Y base T) : FnOk P w K mg base (L2N.CX P w) 1 Y.d_worked.f Y.d_worked.fd ["patterns", "wanted"] (spF K T m_worked) :=
  have nd := sc_worked.nd
  fn_def Y.d_worked.F sc_worked fun cdv hcd A outer s H E c hr =>
    (ms_seq (ms_parL3 (i := 2) (j := 3) (k := 4) rfl nd rfl rfl rfl (by decide) (by decide) (by decide) rfl rfl rfl (ml_own (mo_dc rfl nd (mi_all (mv 0)) (blk_of [("name", 7)] rfl) rfl (fun c s H C cl fp => (mgn 7 nd)) (fun c s H C cl fp => mts_nil) (fun c s H C cl fp => (mv 7)) (fun c s H C cl fp => me_int)) fun c => (ml_own (mo_dc rfl nd (mi_all (mv 0)) (blk_of [("name", 7)] rfl) rfl (fun c s H C cl fp => (mgn 7 nd)) (fun c s H C cl fp => mts_nil) (fun c s H C cl fp => (mv 7)) (fun c s H C cl fp => me_int)) fun c => (ml_dat me_int ml_nil))) rfl) (ms_seq (ms_parL (i := 5) (k := 6) rfl nd rfl rfl (by decide) rfl rfl (ml_own mo_newL fun c => (ml_own mo_newL fun c => ml_nil)) rfl) (ms_seq (ms_for (passes_of rfl) rfl (mi_all (mv 1)) (mg_tupD rfl (mgc 7 nd (mgc 8 nd mgs_nil))) (ms_seq (ms_set (i := 9) nd rfl (by first | exact Or.inl rfl | exact Or.inr rfl) (me_callB (b_max rfl) rfl Y.n_max bt_max (ma_cons (mv 4) (ma_cons (me_oix (i := 3) (hu_of hr) rfl (by first | exact Or.inl rfl | exact Or.inr (Or.inl rfl) | exact Or.inr (Or.inr rfl)) (mv 7) (by first | (intro _ _ _; rfl) | (intro _ _; rfl))) ma_nil)))) (ms_seq (ms_set (i := 4) nd rfl (by first | exact Or.inl rfl | exact Or.inr rfl) (me_op o_add (mv 9) (mv 8))) (ms_seq (ms_append (i := 5) rfl (by first | exact Or.inl rfl | exact Or.inr (Or.inl rfl) | exact Or.inr (Or.inr rfl)) (me_tup (ma_cons (mv 7) (ma_cons (mv 9) (ma_cons (mv 4) ma_nil))))) (ms_seq (ms_put (i := 2) (hu_of hr) rfl (by first | exact Or.inl rfl | exact Or.inr (Or.inl rfl) | exact Or.inr (Or.inr rfl)) (mv 7) (me_op o_add (me_oix (i := 2) (hu_of hr) rfl (by first | exact Or.inl rfl | exact Or.inr (Or.inl rfl) | exact Or.inr (Or.inr rfl)) (mv 7) (by first | (intro _ _ _; rfl) | (intro _ _; rfl))) me_int)) (ms_one (ms_if (mt_cmp (o_eq hr.units) (me_oix (i := 2) (hu_of hr) rfl (by first | exact Or.inl rfl | exact Or.inr (Or.inl rfl) | exact Or.inr (Or.inr rfl)) (mv 7) (by first | (intro _ _ _; rfl) | (intro _ _; rfl))) (me_ix (hu_of hr) (me_ix (hu_of hr) (mv 0) (mv 7) (fun _ _ => rfl)) me_int (fun _ _ => rfl)) (nomark _)) (ms_seq (ms_put2 (i := 2) (j := 3) (hu_of hr) rfl rfl (by first | exact Or.inl rfl | exact Or.inr (Or.inl rfl) | exact Or.inr (Or.inr rfl)) rfl (by first | exact Or.inl rfl | exact Or.inr (Or.inl rfl) | exact Or.inr (Or.inr rfl)) (mv 7) (mv 7) (ma_cons me_int (ma_cons (me_op o_add (mv 4) (me_ix (hu_of hr) (me_ix (hu_of hr) (mv 0) (mv 7) (fun _ _ => rfl)) me_int (fun _ _ => rfl))) ma_nil))) (ms_one (ms_append (i := 6) rfl (by first | exact Or.inl rfl | exact Or.inr (Or.inl rfl) | exact Or.inr (Or.inr rfl)) (me_tup (ma_cons (mv 4) (ma_cons (mv 7) (ma_cons (me_oix (i := 3) (hu_of hr) rfl (by first | exact Or.inl rfl | exact Or.inr (Or.inl rfl) | exact Or.inr (Or.inr rfl)) (mv 7) (by first | (intro _ _ _; rfl) | (intro _ _; rfl))) ma_nil))))))) ms_nil))))))) (ms_frzM 2 (ms_frzM 3 (ms_frzM 5 (ms_freeze 6 (ms_one (ms_ret (me_tup (ma_cons (mv 5) (ma_cons (me_callB (b_sorted rfl hr.units) rfl Y.n_sorted bt_sorted (ma_cons (mv 6) ma_nil)) ma_nil))))))))))))
def b_end_by : MM Fl := (seqS (asgS (op2 dIx (callE m_worked (consA (var 0) (consA (var 1) (MM.pure [])))) (MM.pure (.int 0))) (setD 2)) (retS (ifE (opT dNe (var 2) (MM.bind (MM.pure []) fun xs => lift (mkL xs))) (op2 dIx (op2 dIx (var 2) (negE (MM.pure (.int 1)))) (MM.pure (.int 2))) (MM.pure (.int 0)))))
def m_end_by : List D → Res D := runF 3 2 b_end_by
theorem sc_end_by : FnScope ["patterns", "wanted", "rows"] ["patterns", "wanted"] (defScope (top 30)) := ⟨rfl, rfl, rfl, by decide +kernel, rfl, by decide +kernel, by decide +kernel⟩
theorem ok_end_by (Y : Fx K mg) (Z : Zx Y base T) : FnOk P w K mg base (L2N.CX P w) 2 Y.d_end_by.f Y.d_end_by.fd ["patterns", "wanted"] (spF K T m_end_by) :=
  have nd := sc_end_by.nd
  fn_def Y.d_end_by.F sc_end_by fun cdv hcd A outer s H E c hr =>
    (ms_seq (ms_set (i := 2) nd rfl (by first | exact Or.inl rfl | exact Or.inr rfl) (me_ix (hu_of hr) (me_call (ok_worked Y Z) (hr.mono (by decide)) rfl Y.d_worked.g Y.d_worked.F.kp Y.d_worked.b (L2N.takes_of rfl rfl rfl rfl) (ma_cons (mv 0) (ma_cons (mv 1) ma_nil))) me_int (fun _ _ => rfl))) (ms_one (ms_ret (me_if (mt_cmp (o_ne hr.units) (mv 2) (me_lst ma_nil) (nomark _)) (me_ix (hu_of hr) (me_ix (hu_of hr) (mv 2) (me_neg me_int) (fun _ _ => rfl)) me_int (fun _ _ => rfl)) me_int))))
def c_waited_1 : MM D := (var 3)
def b_waited : MM Fl := (seqS (exprS (callE m_need_wanted (consA (var 0) (consA (var 1) (MM.pure []))))) (retS (op2 dSub (callE m_end_by (consA (var 0) (consA (var 1) (MM.pure [])))) (callE dSum (consA (MM.bind (iterA (var 1)) (compL [2, 3] (setT [2, 3]) (MM.pure true) c_waited_1)) (MM.pure []))))))
def m_waited : List D → Res D := runF 4 2 b_waited
theorem sc_waited : FnScope ["patterns", "wanted", "name", "beats"] ["patterns", "wanted"] (defScope (top 31)) := ⟨rfl, rfl, rfl, by decide +kernel, rfl, by decide +kernel, by decide +kernel⟩
theorem ok_waited (Y : Fx K mg) (Z : Zx Y base T) : FnOk P w K mg base (L2N.CX P w) 4 Y.d_waited.f Y.d_waited.fd ["patterns", "wanted"] (spF K T m_waited) :=
  have nd := sc_waited.nd
  fn_def Y.d_waited.F sc_waited fun cdv hcd A outer s H E c hr =>
    (ms_seq (ms_expr (me_call (ok_need_wanted Y Z) (hr.mono (by decide)) rfl Y.d_need_wanted.g Y.d_need_wanted.F.kp Y.d_need_wanted.b (L2N.takes_of rfl rfl rfl rfl) (ma_cons (mv 0) (ma_cons (mv 1) ma_nil)))) (ms_one (ms_ret (me_op o_sub (me_call (ok_end_by Y Z) (hr.mono (by decide)) rfl Y.d_end_by.g Y.d_end_by.F.kp Y.d_end_by.b (L2N.takes_of rfl rfl rfl rfl) (ma_cons (mv 0) (ma_cons (mv 1) ma_nil))) (me_callB (b_sum rfl) rfl Y.n_sum bt_sum (ma_cons (me_lc rfl nd (mi_all (mv 1)) (blk_of [("name", 2), ("beats", 3)] rfl) rfl (fun c s H C cl fp => (mg_tupD rfl (mgc 2 nd (mgc 3 nd mgs_nil)))) (fun c s H C cl fp => mts_nil) (fun c s H C cl fp => (mv 3))) ma_nil))))))
def c__law_turns_1 (r : List D → Res D) : MM D := (op2 dAdd (MM.bind (consA (var 3) (MM.pure [])) fun xs => lift (mkL xs)) (var 4))
def b__law_turns_1 (r : List D → Res D) : MM Fl := (asgS (op2 dAdd (var 1) (MM.bind (iterA (callE r (consA (op2 dAdd (sliceE (var 0) partN (partS (var 2))) (sliceE (var 0) (partS (op2 dAdd (var 2) (MM.pure (.int 1)))) partN)) (MM.pure [])))) (compL [4] (setD 4) (MM.pure true) (c__law_turns_1 r)))) (setD 1))
def b__law_turns (r : List D → Res D) : MM Fl := (seqS (ifS (opT dEq (var 0) (MM.bind (MM.pure []) fun xs => lift (mkL xs))) (retS (MM.bind (consA (MM.bind (MM.pure []) fun xs => lift (mkL xs)) (MM.pure [])) fun xs => lift (mkL xs))) (MM.pure .nx)) (seqS (asgS (MM.bind (MM.pure []) fun xs => lift (mkL xs)) (setD 1)) (seqS (MM.bind (MM.bind (consA (var 0) (MM.pure [])) fun ds => lift (enumA ds)) (forD (setT [2, 3]) (b__law_turns_1 r))) (retS (var 1)))))
def m__law_turns : Nat → List D → Res D
  | 0 => fun _ => .stuck
  | n + 1 => runF 5 1 (b__law_turns (m__law_turns n))
theorem sc__law_turns : FnScope ["_law_names", "_law_found", "_law_at", "_law_name", "_law_rest"] ["_law_names"] (defScope (top 43)) := ⟨rfl, rfl, rfl, by decide +kernel, rfl, by decide +kernel, by decide +kernel⟩
theorem ok__law_turns (Y : Fx K mg) (Z : Zx Y base T) : ∀ n : Nat, FnOk P w K mg base (L2N.CX P w) (n + 1) Y.d__law_turns.f Y.d__law_turns.fd ["_law_names"] (spF K T (m__law_turns n))
  | 0 => fn_out
  | n + 1 =>
    have ih := ok__law_turns Y Z n
    have nd := sc__law_turns.nd
    fn_def Y.d__law_turns.F sc__law_turns fun cdv hcd A outer s H E c hr =>
      (ms_seq (ms_if (mt_cmp (o_eq hr.units) (mv 0) (me_lst ma_nil) (nomark _)) (ms_one (ms_ret (me_lst (ma_cons (me_lst ma_nil) ma_nil)))) ms_nil) (ms_seq (ms_set (i := 1) nd rfl (by first | exact Or.inl rfl | exact Or.inr rfl) (me_lst ma_nil)) (ms_seq (ms_for (passes_of rfl) rfl (mi_enumA rfl Y.n_enumerate (ma_cons (mv 0) ma_nil)) (mg_tup rfl (mgc 2 nd (mgc 3 nd mgs_nil))) (ms_one (ms_set (i := 1) nd rfl (by first | exact Or.inl rfl | exact Or.inr rfl) (me_op o_add (mv 1) (me_lc rfl nd (mi_all (me_call ih (hr.mono (by omega)) rfl Y.d__law_turns.g Y.d__law_turns.F.kp Y.d__law_turns.b (L2N.takes_of rfl rfl rfl rfl) (ma_cons (me_op o_add (me_slice (mv 0) mo_none (mo_some (mv 2))) (me_slice (mv 0) (mo_some (me_op o_add (mv 2) me_int)) mo_none)) ma_nil))) (blk_of [("_law_rest", 4)] rfl) rfl (fun c s H C cl fp => (mgn 4 nd)) (fun c s H C cl fp => mts_nil) (fun c s H C cl fp => (me_op o_add (me_lst (ma_cons (mv 3) ma_nil)) (mv 4)))))))) (ms_one (ms_ret (mv 1))))))
def b_need_few : MM Fl := (ifS (opT dGt (callE dLen (consA (var 0) (MM.pure []))) (MM.pure (.int 7))) (raiseS "Full") (MM.pure .nx))
def m_need_few : List D → Res D := runF 1 1 b_need_few
theorem sc_need_few : FnScope ["wanted"] ["wanted"] (defScope (top 32)) := ⟨rfl, rfl, rfl, by decide +kernel, rfl, by decide +kernel, by decide +kernel⟩
theorem ok_need_few (Y : Fx K mg) (Z : Zx Y base T) : FnOk P w K mg base (L2N.CX P w) 1 Y.d_need_few.f Y.d_need_few.fd ["wanted"] (spF K T m_need_few) :=
  have nd := sc_need_few.nd
  fn_def Y.d_need_few.F sc_need_few fun cdv hcd A outer s H E c hr =>
    (ms_one (ms_if (mt_cmp o_gt (me_callB b_len rfl Y.n_len bt_len (ma_cons (mv 0) ma_nil)) me_int (nomark _)) (ms_one (ms_raise rfl (L2N.takes_of rfl rfl rfl rfl) (Z.U.x "Full" (by decide +kernel)).o (Z.U.g "Full" (by decide +kernel)) rfl)) ms_nil))
def c_turns_of_1 (r : List D → Res D) : MM D := (op2 dAdd (MM.bind (consA (var 3) (MM.pure [])) fun xs => lift (mkL xs)) (var 4))
def b_turns_of_1 (r : List D → Res D) : MM Fl := (asgS (op2 dAdd (var 1) (MM.bind (iterA (callE r (consA (op2 dAdd (sliceE (var 0) partN (partS (var 2))) (sliceE (var 0) (partS (op2 dAdd (var 2) (MM.pure (.int 1)))) partN)) (MM.pure [])))) (compL [4] (setD 4) (MM.pure true) (c_turns_of_1 r)))) (setD 1))
def b_turns_of (r : List D → Res D) : MM Fl := (seqS (ifS (opT dEq (var 0) (MM.bind (MM.pure []) fun xs => lift (mkL xs))) (retS (MM.bind (consA (MM.bind (MM.pure []) fun xs => lift (mkL xs)) (MM.pure [])) fun xs => lift (mkL xs))) (MM.pure .nx)) (seqS (asgS (MM.bind (MM.pure []) fun xs => lift (mkL xs)) (setD 1)) (seqS (MM.bind (MM.bind (consA (var 0) (MM.pure [])) fun ds => lift (enumA ds)) (forD (setT [2, 3]) (b_turns_of_1 r))) (retS (var 1)))))
def m_turns_of : Nat → List D → Res D
  | 0 => fun _ => .stuck
  | n + 1 => runF 5 1 (b_turns_of (m_turns_of n))
theorem sc_turns_of : FnScope ["rows", "found", "at", "row", "rest"] ["rows"] (defScope (top 23)) := ⟨rfl, rfl, rfl, by decide +kernel, rfl, by decide +kernel, by decide +kernel⟩
theorem ok_turns_of (Y : Fx K mg) (Z : Zx Y base T) : ∀ n : Nat, FnOk P w K mg base (L2N.CX P w) (n + 1) Y.d_turns_of.f Y.d_turns_of.fd ["rows"] (spF K T (m_turns_of n))
  | 0 => fn_out
  | n + 1 =>
    have ih := ok_turns_of Y Z n
    have nd := sc_turns_of.nd
    fn_def Y.d_turns_of.F sc_turns_of fun cdv hcd A outer s H E c hr =>
      (ms_seq (ms_if (mt_cmp (o_eq hr.units) (mv 0) (me_lst ma_nil) (nomark _)) (ms_one (ms_ret (me_lst (ma_cons (me_lst ma_nil) ma_nil)))) ms_nil) (ms_seq (ms_set (i := 1) nd rfl (by first | exact Or.inl rfl | exact Or.inr rfl) (me_lst ma_nil)) (ms_seq (ms_for (passes_of rfl) rfl (mi_enumA rfl Y.n_enumerate (ma_cons (mv 0) ma_nil)) (mg_tup rfl (mgc 2 nd (mgc 3 nd mgs_nil))) (ms_one (ms_set (i := 1) nd rfl (by first | exact Or.inl rfl | exact Or.inr rfl) (me_op o_add (mv 1) (me_lc rfl nd (mi_all (me_call ih (hr.mono (by omega)) rfl Y.d_turns_of.g Y.d_turns_of.F.kp Y.d_turns_of.b (L2N.takes_of rfl rfl rfl rfl) (ma_cons (me_op o_add (me_slice (mv 0) mo_none (mo_some (mv 2))) (me_slice (mv 0) (mo_some (me_op o_add (mv 2) me_int)) mo_none)) ma_nil))) (blk_of [("rest", 4)] rfl) rfl (fun c s H C cl fp => (mgn 4 nd)) (fun c s H C cl fp => mts_nil) (fun c s H C cl fp => (me_op o_add (me_lst (ma_cons (mv 3) ma_nil)) (mv 4)))))))) (ms_one (ms_ret (mv 1))))))
def c_least_made_1 : MM D := (callE m_end_by (consA (var 0) (consA (var 2) (MM.pure []))))
def b_least_made : MM Fl := (retS (callE dMin (consA (MM.bind (iterA (callE (m_turns_of 14) (consA (var 1) (MM.pure [])))) (compL [2] (setD 2) (MM.pure true) c_least_made_1)) (MM.pure []))))
def m_least_made : List D → Res D := runF 3 2 b_least_made
theorem sc_least_made : FnScope ["patterns", "wanted", "turn"] ["patterns", "wanted"] (defScope (top 33)) := ⟨rfl, rfl, rfl, by decide +kernel, rfl, by decide +kernel, by decide +kernel⟩
theorem ok_least_made (Y : Fx K mg) (Z : Zx Y base T) : FnOk P w K mg base (L2N.CX P w) 16 Y.d_least_made.f Y.d_least_made.fd ["patterns", "wanted"] (spF K T m_least_made) :=
  have nd := sc_least_made.nd
  fn_def Y.d_least_made.F sc_least_made fun cdv hcd A outer s H E c hr =>
    (ms_one (ms_ret (me_callB (b_min rfl) rfl Y.n_min bt_min (ma_cons (me_lc rfl nd (mi_all (me_call (ok_turns_of Y Z 14) (hr.mono (by decide)) rfl Y.d_turns_of.g Y.d_turns_of.F.kp Y.d_turns_of.b (L2N.takes_of rfl rfl rfl rfl) (ma_cons (mv 1) ma_nil))) (blk_of [("turn", 2)] rfl) rfl (fun c s H C cl fp => (mgn 2 nd)) (fun c s H C cl fp => mts_nil) (fun c s H C cl fp => (me_call (ok_end_by Y Z) (hr.mono (by decide)) rfl Y.d_end_by.g Y.d_end_by.F.kp Y.d_end_by.b takes0 (ma_cons (mv 0) (ma_cons (mv 2) ma_nil))))) ma_nil))))
def b_best_made : MM Fl := (seqS (exprS (callE m_need_wanted (consA (var 0) (consA (var 1) (MM.pure []))))) (seqS (exprS (callE m_need_few (consA (var 1) (MM.pure [])))) (retS (callE m_least_made (consA (var 0) (consA (var 1) (MM.pure [])))))))
def m_best_made : List D → Res D := runF 2 2 b_best_made
theorem sc_best_made : FnScope ["patterns", "wanted"] ["patterns", "wanted"] (defScope (top 34)) := ⟨rfl, rfl, rfl, by decide +kernel, rfl, by decide +kernel, by decide +kernel⟩
theorem ok_best_made (Y : Fx K mg) (Z : Zx Y base T) : FnOk P w K mg base (L2N.CX P w) 17 Y.d_best_made.f Y.d_best_made.fd ["patterns", "wanted"] (spF K T m_best_made) :=
  have nd := sc_best_made.nd
  fn_def Y.d_best_made.F sc_best_made fun cdv hcd A outer s H E c hr =>
    (ms_seq (ms_expr (me_call (ok_need_wanted Y Z) (hr.mono (by decide)) rfl Y.d_need_wanted.g Y.d_need_wanted.F.kp Y.d_need_wanted.b (L2N.takes_of rfl rfl rfl rfl) (ma_cons (mv 0) (ma_cons (mv 1) ma_nil)))) (ms_seq (ms_expr (me_call (ok_need_few Y Z) (hr.mono (by decide)) rfl Y.d_need_few.g Y.d_need_few.F.kp Y.d_need_few.b (L2N.takes_of rfl rfl rfl rfl) (ma_cons (mv 1) ma_nil))) (ms_one (ms_ret (me_call (ok_least_made Y Z) (hr.mono (by decide)) rfl Y.d_least_made.g Y.d_least_made.F.kp Y.d_least_made.b (L2N.takes_of rfl rfl rfl rfl) (ma_cons (mv 0) (ma_cons (mv 1) ma_nil)))))))
def c_first_turn_1 : MM D := (var 3)
def b_first_turn : MM Fl := (seqS (exprS (callE m_need_wanted (consA (var 0) (consA (var 1) (MM.pure []))))) (seqS (exprS (callE m_need_few (consA (var 1) (MM.pure [])))) (seqS (asgS (callE m_least_made (consA (var 0) (consA (var 1) (MM.pure [])))) (setD 2)) (retS (op2 dIx (MM.bind (iterA (callE (m_turns_of 14) (consA (callE dSorted (consA (var 1) (MM.pure []))) (MM.pure [])))) (compL [3] (setD 3) (opT dEq (callE m_end_by (consA (var 0) (consA (var 3) (MM.pure [])))) (var 2)) c_first_turn_1)) (MM.pure (.int 0)))))))
def m_first_turn : List D → Res D := runF 4 2 b_first_turn
theorem sc_first_turn : FnScope ["patterns", "wanted", "least", "turn"] ["patterns", "wanted"] (defScope (top 35)) := ⟨rfl, rfl, rfl, by decide +kernel, rfl, by decide +kernel, by decide +kernel⟩
theorem ok_first_turn (Y : Fx K mg) (Z : Zx Y base T) : FnOk P w K mg base (L2N.CX P w) 17 Y.d_first_turn.f Y.d_first_turn.fd ["patterns", "wanted"] (spF K T m_first_turn) :=
  have nd := sc_first_turn.nd
  fn_def Y.d_first_turn.F sc_first_turn fun cdv hcd A outer s H E c hr =>
    (ms_seq (ms_expr (me_call (ok_need_wanted Y Z) (hr.mono (by decide)) rfl Y.d_need_wanted.g Y.d_need_wanted.F.kp Y.d_need_wanted.b (L2N.takes_of rfl rfl rfl rfl) (ma_cons (mv 0) (ma_cons (mv 1) ma_nil)))) (ms_seq (ms_expr (me_call (ok_need_few Y Z) (hr.mono (by decide)) rfl Y.d_need_few.g Y.d_need_few.F.kp Y.d_need_few.b (L2N.takes_of rfl rfl rfl rfl) (ma_cons (mv 1) ma_nil))) (ms_seq (ms_set (i := 2) nd rfl (by first | exact Or.inl rfl | exact Or.inr rfl) (me_call (ok_least_made Y Z) (hr.mono (by decide)) rfl Y.d_least_made.g Y.d_least_made.F.kp Y.d_least_made.b (L2N.takes_of rfl rfl rfl rfl) (ma_cons (mv 0) (ma_cons (mv 1) ma_nil)))) (ms_one (ms_ret (me_ix (hu_of hr) (me_lc rfl nd (mi_all (me_call (ok_turns_of Y Z 14) (hr.mono (by decide)) rfl Y.d_turns_of.g Y.d_turns_of.F.kp Y.d_turns_of.b (L2N.takes_of rfl rfl rfl rfl) (ma_cons (me_callB (b_sorted rfl hr.units) rfl Y.n_sorted bt_sorted (ma_cons (mv 1) ma_nil)) ma_nil))) (blk_of [("turn", 3)] rfl) rfl (fun c s H C cl fp => (mgn 3 nd)) (fun c s H C cl fp => (mts_one (mt_cmp (o_eq hr.units) (me_call (ok_end_by Y Z) (hr.mono (by decide)) rfl Y.d_end_by.g Y.d_end_by.F.kp Y.d_end_by.b takes0 (ma_cons (mv 0) (ma_cons (mv 3) ma_nil))) (mv 2) (nomark _)))) (fun c s H C cl fp => (mv 3))) me_int (fun _ _ => rfl)))))))
def b__law_best_turn_right_1 : MM Fl := (seqS (asgS (op2 dIx (callE m__law_bench (consA (var 0) (consA (var 3) (MM.pure [])))) (MM.pure (.int 0))) (setD 4)) (appS 2 (MM.bind (consA (ifE (opT dNe (var 4) (MM.bind (MM.pure []) fun xs => lift (mkL xs))) (op2 dIx (op2 dIx (var 4) (negE (MM.pure (.int 1)))) (MM.pure (.int 2))) (MM.pure (.int 0))) (consA (var 3) (MM.pure []))) fun xs => lift (mkT xs))))
def c__law_best_turn_right_1 : MM D := (op2 dIx (var 6) (MM.pure (.int 0)))
def c__law_best_turn_right_2 : MM D := (var 3)
def b__law_best_turn_right : MM Fl := (seqS (newO (MM.pure (.ol [])) 2) (seqS (MM.bind (iterA (callE (m__law_turns 14) (consA (callE dSorted (consA (var 1) (MM.pure []))) (MM.pure [])))) (forD (setD 3) b__law_best_turn_right_1)) (fun ρ => (seqS (asgS (callE dMin (consA (MM.bind (iterA (var 2)) (compL [6] (setD 6) (MM.pure true) c__law_best_turn_right_1)) (MM.pure []))) (setD 5)) (seqS (ifS (opT dNe (callE m_best_made (consA (var 0) (consA (var 1) (MM.pure [])))) (var 5)) (retS (MM.pure (.bool false))) (MM.pure .nx)) (seqS (ifS (opT dNe (callE m_first_turn (consA (var 0) (consA (var 1) (MM.pure [])))) (callE dMinG (consA (MM.bind (iterA (var 2)) (compL [7, 3] (setT [7, 3]) (opT dEq (var 7) (var 5)) c__law_best_turn_right_2)) (MM.pure [])))) (retS (MM.pure (.bool false))) (MM.pure .nx)) (retS (MM.pure (.bool true)))))) (frzS 2 ρ))))
def m__law_best_turn_right : List D → Res D := runF 8 2 b__law_best_turn_right
theorem sc__law_best_turn_right : FnScope ["_law_patterns", "_law_few", "_law_best", "_law_turn", "_law_rows", "_law_least_one", "_law_row", "_law_far"] ["_law_patterns", "_law_few"] (defScope (top 45)) := ⟨rfl, rfl, rfl, by decide +kernel, rfl, by decide +kernel, by decide +kernel⟩
theorem ok__law_best_turn_right (Y : Fx K mg) (Z : Zx Y base T) : FnOk P w K mg base (L2N.CX P w) 18 Y.d__law_best_turn_right.f Y.d__law_best_turn_right.fd ["_law_patterns", "_law_few"] (spF K T m__law_best_turn_right) :=
  have nd := sc__law_best_turn_right.nd
  fn_def Y.d__law_best_turn_right.F sc__law_best_turn_right fun cdv hcd A outer s H E c hr =>
    (ms_seq (ms_newO (i := 2) nd rfl (by first | exact Or.inl rfl | exact Or.inr rfl) mo_newL) (ms_seq (ms_for (passes_of rfl) rfl (mi_all (me_call (ok__law_turns Y Z 14) (hr.mono (by decide)) rfl Y.d__law_turns.g Y.d__law_turns.F.kp Y.d__law_turns.b (L2N.takes_of rfl rfl rfl rfl) (ma_cons (me_callB (b_sorted rfl hr.units) rfl Y.n_sorted bt_sorted (ma_cons (mv 1) ma_nil)) ma_nil))) (mgn 3 nd) (ms_seq (ms_set (i := 4) nd rfl (by first | exact Or.inl rfl | exact Or.inr rfl) (me_ix (hu_of hr) (me_call (ok__law_bench Y Z) (hr.mono (by decide)) rfl Y.d__law_bench.g Y.d__law_bench.F.kp Y.d__law_bench.b (L2N.takes_of rfl rfl rfl rfl) (ma_cons (mv 0) (ma_cons (mv 3) ma_nil))) me_int (fun _ _ => rfl))) (ms_one (ms_append (i := 2) rfl (by first | exact Or.inl rfl | exact Or.inr (Or.inl rfl) | exact Or.inr (Or.inr rfl)) (me_tup (ma_cons (me_if (mt_cmp (o_ne hr.units) (mv 4) (me_lst ma_nil) (nomark _)) (me_ix (hu_of hr) (me_ix (hu_of hr) (mv 4) (me_neg me_int) (fun _ _ => rfl)) me_int (fun _ _ => rfl)) me_int) (ma_cons (mv 3) ma_nil))))))) (ms_freeze 2 (ms_seq (ms_set (i := 5) nd rfl (by first | exact Or.inl rfl | exact Or.inr rfl) (me_callB (b_min rfl) rfl Y.n_min bt_min (ma_cons (me_lc rfl nd (mi_all (mv 2)) (blk_of [("_law_row", 6)] rfl) rfl (fun c s H C cl fp => (mgn 6 nd)) (fun c s H C cl fp => mts_nil) (fun c s H C cl fp => (me_ix (hu_of hr) (mv 6) me_int (fun _ _ => rfl)))) ma_nil))) (ms_seq (ms_if (mt_cmp (o_ne hr.units) (me_call (ok_best_made Y Z) (hr.mono (by decide)) rfl Y.d_best_made.g Y.d_best_made.F.kp Y.d_best_made.b (L2N.takes_of rfl rfl rfl rfl) (ma_cons (mv 0) (ma_cons (mv 1) ma_nil))) (mv 5) (nomark _)) (ms_one (ms_ret me_bl)) ms_nil) (ms_seq (ms_if (mt_cmp (o_ne hr.units) (me_call (ok_first_turn Y Z) (hr.mono (by decide)) rfl Y.d_first_turn.g Y.d_first_turn.F.kp Y.d_first_turn.b (L2N.takes_of rfl rfl rfl rfl) (ma_cons (mv 0) (ma_cons (mv 1) ma_nil))) (me_callB (b_minG rfl hr.units) rfl Y.n_min bt_min (ma_cons (me_lc rfl nd (mi_all (mv 2)) (blk_of [("_law_far", 7), ("_law_turn", 3)] rfl) rfl (fun c s H C cl fp => (mg_tupD rfl (mgc 7 nd (mgc 3 nd mgs_nil)))) (fun c s H C cl fp => (mts_one (mt_cmp (o_eq hr.units) (mv 7) (mv 5) (nomark _)))) (fun c s H C cl fp => (mv 3))) ma_nil)) (nomark _)) (ms_one (ms_ret me_bl)) ms_nil) (ms_one (ms_ret me_bl))))))))
def b_bench_rows : MM Fl := (seqS (exprS (callE m_need_wanted (consA (var 0) (consA (var 1) (MM.pure []))))) (retS (op2 dIx (callE m_worked (consA (var 0) (consA (var 1) (MM.pure [])))) (MM.pure (.int 0)))))
def m_bench_rows : List D → Res D := runF 2 2 b_bench_rows
theorem sc_bench_rows : FnScope ["patterns", "wanted"] ["patterns", "wanted"] (defScope (top 28)) := ⟨rfl, rfl, rfl, by decide +kernel, rfl, by decide +kernel, by decide +kernel⟩
theorem ok_bench_rows (Y : Fx K mg) (Z : Zx Y base T) : FnOk P w K mg base (L2N.CX P w) 4 Y.d_bench_rows.f Y.d_bench_rows.fd ["patterns", "wanted"] (spF K T m_bench_rows) :=
  have nd := sc_bench_rows.nd
  fn_def Y.d_bench_rows.F sc_bench_rows fun cdv hcd A outer s H E c hr =>
    (ms_seq (ms_expr (me_call (ok_need_wanted Y Z) (hr.mono (by decide)) rfl Y.d_need_wanted.g Y.d_need_wanted.F.kp Y.d_need_wanted.b (L2N.takes_of rfl rfl rfl rfl) (ma_cons (mv 0) (ma_cons (mv 1) ma_nil)))) (ms_one (ms_ret (me_ix (hu_of hr) (me_call (ok_worked Y Z) (hr.mono (by decide)) rfl Y.d_worked.g Y.d_worked.F.kp Y.d_worked.b (L2N.takes_of rfl rfl rfl rfl) (ma_cons (mv 0) (ma_cons (mv 1) ma_nil))) me_int (fun _ _ => rfl)))))
def b_mends : MM Fl := (seqS (exprS (callE m_need_wanted (consA (var 0) (consA (var 1) (MM.pure []))))) (retS (op2 dIx (callE m_worked (consA (var 0) (consA (var 1) (MM.pure [])))) (MM.pure (.int 1)))))
def m_mends : List D → Res D := runF 2 2 b_mends
theorem sc_mends : FnScope ["patterns", "wanted"] ["patterns", "wanted"] (defScope (top 29)) := ⟨rfl, rfl, rfl, by decide +kernel, rfl, by decide +kernel, by decide +kernel⟩
theorem ok_mends (Y : Fx K mg) (Z : Zx Y base T) : FnOk P w K mg base (L2N.CX P w) 4 Y.d_mends.f Y.d_mends.fd ["patterns", "wanted"] (spF K T m_mends) :=
  have nd := sc_mends.nd
  fn_def Y.d_mends.F sc_mends fun cdv hcd A outer s H E c hr =>
    (ms_seq (ms_expr (me_call (ok_need_wanted Y Z) (hr.mono (by decide)) rfl Y.d_need_wanted.g Y.d_need_wanted.F.kp Y.d_need_wanted.b (L2N.takes_of rfl rfl rfl rfl) (ma_cons (mv 0) (ma_cons (mv 1) ma_nil)))) (ms_one (ms_ret (me_ix (hu_of hr) (me_call (ok_worked Y Z) (hr.mono (by decide)) rfl Y.d_worked.g Y.d_worked.F.kp Y.d_worked.b (L2N.takes_of rfl rfl rfl rfl) (ma_cons (mv 0) (ma_cons (mv 1) ma_nil))) me_int (fun _ _ => rfl)))))
def s_law_1 : MM Fl := (newO (MM.pure (.od [])) 2)
def b_law_1 : MM Fl := (putS 2 (MM.bind (consA (op2 dAdd (MM.pure (.int 1)) (callO m__law_roll 1 (consA (MM.pure (.int 4)) (MM.pure [])))) (consA (callO m__law_roll 1 (consA (MM.pure (.int 12)) (MM.pure []))) (MM.pure []))) fun xs => lift (mkT xs)) (var 3))
def s_law_2 : MM Fl := (MM.bind (iterA (sliceE (MM.bind (consA (MM.pure (.str "ann")) (consA (MM.pure (.str "bob")) (consA (MM.pure (.str "cy")) (MM.pure [])))) fun xs => lift (mkL xs)) (partS (callO m__law_roll 1 (consA (MM.pure (.int 3)) (MM.pure [])))) partN)) (forD (setD 3) b_law_1))
def s_law_3 : MM Fl := (parL [4, 5] (consD (callE dSorted (consA (var 2) (MM.pure []))) (consS (MM.pure (.ol [])) (MM.pure []))))
def b_law_2 : MM Fl := (appS 5 (MM.bind (consA (op2 dIx (var 4) (callO m__law_roll 1 (consA (callE dLen (consA (var 4) (MM.pure []))) (MM.pure [])))) (consA (op2 dAdd (MM.pure (.int 1)) (callO m__law_roll 1 (consA (MM.pure (.int 8)) (MM.pure [])))) (MM.pure []))) fun xs => lift (mkT xs)))
def s_law_4 : MM Fl := (MM.bind (MM.bind (consA (callO m__law_roll 1 (consA (MM.pure (.int 14)) (MM.pure []))) (MM.pure [])) fun ds => lift (range1 ds)) (forD (setD 6) b_law_2))
def s_law_5 : MM Fl := (parL [7, 8] (consD (strE (MM.bind (consA (var 2) (consA (var 5) (MM.pure []))) fun xs => lift (mkL xs))) (consD (callE m__law_bench (consA (var 2) (consA (var 5) (MM.pure [])))) (MM.pure []))))
def s_law_6 : MM Fl := (asgS (ifE (opT dNe (var 5) (MM.bind (MM.pure []) fun xs => lift (mkL xs))) (op2 dIx (op2 dIx (op2 dIx (var 8) (MM.pure (.int 0))) (negE (MM.pure (.int 1)))) (MM.pure (.int 2))) (MM.pure (.int 0))) (setD 9))
def s_law_7 : MM Fl := (ifS (orT (opT dNe (callE m_bench_rows (consA (var 2) (consA (var 5) (MM.pure [])))) (op2 dIx (var 8) (MM.pure (.int 0)))) (opT dNe (callE m_mends (consA (var 2) (consA (var 5) (MM.pure [])))) (op2 dIx (var 8) (MM.pure (.int 1))))) (retS (MM.pure (.bool false))) (MM.pure .nx))
def c_law_1 : MM D := (var 14)
def s_law_8 : MM Fl := (ifS (opT dNe (callE m_waited (consA (var 2) (consA (var 5) (MM.pure [])))) (op2 dSub (var 9) (callE dSum (consA (MM.bind (iterA (var 5)) (compL [3, 14] (setT [3, 14]) (MM.pure true) c_law_1)) (MM.pure []))))) (retS (MM.pure (.bool false))) (MM.pure .nx))
def s_law_9 : MM Fl := (ifS (opT dNe (strE (MM.bind (consA (var 2) (consA (var 5) (MM.pure []))) fun xs => lift (mkL xs))) (var 7)) (retS (MM.pure (.bool false))) (MM.pure .nx))
def s_law_10 : MM Fl := (asgS (sliceE (var 5) partN (partS (MM.pure (.int 5)))) (setD 10))
def s_law_11 : MM Fl := (ifS (notT (tst (callE m__law_best_turn_right (consA (var 2) (consA (var 10) (MM.pure [])))))) (retS (MM.pure (.bool false))) (MM.pure .nx))
def s_law_12 : MM Fl := (ifS (andT (opT dGt (callE dLen (consA (var 5) (MM.pure []))) (MM.pure (.int 7))) (opT dNe (toldE nsX (callE m_best_made (consA (var 2) (consA (var 5) (MM.pure []))))) (MM.bind (consA (MM.pure (.str "refused")) (consA (MM.pure (.str "Full")) (MM.pure []))) fun xs => lift (mkT xs)))) (retS (MM.pure (.bool false))) (MM.pure .nx))
def s_law_13 : MM Fl := (asgS (MM.bind (consA (MM.pure .none) (consA (MM.pure (.int 5)) (consA (MM.pure (.dict [])) (consA (dispE (consP (MM.pure (.str "Ann")) (MM.bind (consA (MM.pure (.int 1)) (consA (MM.pure (.int 1)) (MM.pure []))) fun xs => lift (mkT xs)) (MM.pure []))) (consA (dispE (consP (MM.pure (.str "ann")) (MM.bind (consA (MM.pure (.int 0)) (consA (MM.pure (.int 1)) (MM.pure []))) fun xs => lift (mkT xs)) (MM.pure []))) (consA (dispE (consP (MM.pure (.str "ann")) (MM.bind (consA (MM.pure (.int 21)) (consA (MM.pure (.int 1)) (MM.pure []))) fun xs => lift (mkT xs)) (MM.pure []))) (MM.pure []))))))) fun xs => lift (mkL xs)) (setD 11))
def s_law_14 : MM Fl := (asgS (op2 dAdd (var 11) (MM.bind (consA (dispE (consP (MM.pure (.str "ann")) (MM.bind (consA (MM.pure (.int 1)) (consA (MM.pure (.int 100)) (MM.pure []))) fun xs => lift (mkT xs)) (MM.pure []))) (consA (dispE (consP (MM.pure (.str "ann")) (MM.bind (consA (MM.pure (.int 1)) (consA (negE (MM.pure (.int 1))) (MM.pure []))) fun xs => lift (mkT xs)) (MM.pure []))) (consA (dispE (consP (MM.pure (.str "ann")) (MM.bind (consA (MM.pure (.int 1)) (consA (MM.pure (.int 1)) (MM.pure []))) fun xs => lift (mkL xs)) (MM.pure []))) (consA (dispE (consP (MM.pure (.str "ann")) (MM.bind (consA (MM.pure (.int 1)) (MM.pure [])) fun xs => lift (mkT xs)) (MM.pure []))) (MM.pure []))))) fun xs => lift (mkL xs))) (setD 11))
def b_law_3 : MM Fl := (ifS (opT dNe (toldE nsX (callE m_bench_rows (consA (var 12) (consA (MM.pure .none) (MM.pure []))))) (MM.bind (consA (MM.pure (.str "refused")) (consA (MM.pure (.str "BadLots")) (MM.pure []))) fun xs => lift (mkT xs))) (retS (MM.pure (.bool false))) (MM.pure .nx))
def s_law_15 : MM Fl := (MM.bind (iterA (var 11)) (forD (setD 12) b_law_3))
def s_law_16 : MM Fl := (asgS (op2 dIx (var 4) (MM.pure (.int 0))) (setD 13))
def s_law_17 : MM Fl := (asgS (MM.bind (consA (MM.pure .none) (consA (MM.pure (.int 5)) (consA (MM.bind (MM.pure []) fun xs => lift (mkT xs)) (consA (MM.bind (consA (MM.pure .none) (MM.pure [])) fun xs => lift (mkL xs)) (consA (MM.bind (consA (MM.bind (consA (MM.pure (.str "zed")) (consA (MM.pure (.int 1)) (MM.pure []))) fun xs => lift (mkT xs)) (MM.pure [])) fun xs => lift (mkL xs)) (consA (MM.bind (consA (MM.bind (consA (var 13) (consA (MM.pure (.int 0)) (MM.pure []))) fun xs => lift (mkT xs)) (MM.pure [])) fun xs => lift (mkL xs)) (consA (MM.bind (consA (MM.bind (consA (var 13) (consA (MM.pure (.int 100)) (MM.pure []))) fun xs => lift (mkT xs)) (MM.pure [])) fun xs => lift (mkL xs)) (consA (MM.bind (consA (MM.bind (consA (var 13) (MM.pure [])) fun xs => lift (mkT xs)) (MM.pure [])) fun xs => lift (mkL xs)) (MM.pure []))))))))) fun xs => lift (mkL xs)) (setD 11))
def s_law_18 : MM Fl := (asgS (op2 dAdd (var 11) (MM.bind (consA (MM.bind (consA (MM.bind (consA (var 13) (consA (MM.pure (.int 1)) (MM.pure []))) fun xs => lift (mkL xs)) (MM.pure [])) fun xs => lift (mkL xs)) (consA (MM.bind (consA (MM.bind (consA (var 13) (consA (MM.pure (.bool true)) (MM.pure []))) fun xs => lift (mkT xs)) (MM.pure [])) fun xs => lift (mkL xs)) (consA (MM.bind (repO (consA (MM.bind (consA (var 13) (consA (MM.pure (.int 1)) (MM.pure []))) fun xs => lift (mkT xs)) (MM.pure [])) (MM.pure (.int 21))) fun s => lift (asD s)) (MM.pure [])))) fun xs => lift (mkL xs))) (setD 11))
def b_law_4 : MM Fl := (seqS (ifS (opT dNe (toldE nsX (callE m_bench_rows (consA (var 2) (consA (var 12) (MM.pure []))))) (MM.bind (consA (MM.pure (.str "refused")) (consA (MM.pure (.str "BadMoulds")) (MM.pure []))) fun xs => lift (mkT xs))) (retS (MM.pure (.bool false))) (MM.pure .nx)) (ifS (opT dNe (toldE nsX (callE m_first_turn (consA (var 2) (consA (var 12) (MM.pure []))))) (MM.bind (consA (MM.pure (.str "refused")) (consA (MM.pure (.str "BadMoulds")) (MM.pure []))) fun xs => lift (mkT xs))) (retS (MM.pure (.bool false))) (MM.pure .nx)))
def s_law_19 : MM Fl := (MM.bind (iterA (var 11)) (forD (setD 12) b_law_4))
def b_law : MM Fl := (seqS s_law_1 (seqS s_law_2 (fun ρ => (seqS s_law_3 (seqS s_law_4 (fun ρ => (seqS s_law_5 (seqS s_law_6 (seqS s_law_7 (seqS s_law_8 (seqS s_law_9 (seqS s_law_10 (seqS s_law_11 (seqS s_law_12 (seqS s_law_13 (seqS s_law_14 (seqS s_law_15 (seqS s_law_16 (seqS s_law_17 (seqS s_law_18 s_law_19)))))))))))))) (frzS 5 ρ)))) (frzS 2 ρ))))
theorem sc_law : FnScope ["_law_script", "_law_dice", "_law_patterns", "_law_name", "_law_names", "_law_wanted", "_law_turn", "_law_kept", "_law_due", "_law_end", "_law_few", "_law_cases", "_law_bad", "_law_one", "_law_beats"] ["_law_script"] (defScope (top 46)) := ⟨rfl, rfl, rfl, by decide +kernel, rfl, by decide +kernel, by decide +kernel⟩
theorem ok_law (Y : Fx K mg) (Z : Zx Y base T) (hb : RoundOk 15 b_law) : FnOkG P w K mg base (L2N.CX P w) 20 Y.d_law.f Y.d_law.fd ["_law_script"] (spLaw K T) :=
  have nd := sc_law.nd
  okG Y.d_law.F sc_law (fun vs H Q E ⟨a, ns, h, _⟩ => by rw [h]; rfl) fun cdv hcd A outer s H vs Q E hg hr h => ⟨_, pss_cons (ps_for (passes_of rfl) rfl (pi_seq (pe_callS (ok__law_rounds Y Z) (hr.mono (by decide)) rfl Y.d__law_rounds.g Y.d__law_rounds.F.kp Y.d__law_rounds.b (fun σ => L2N.passAt (L2N.takes_of rfl rfl rfl rfl) σ) (pa_cons (pv 0) (pa_cons pe_int pa_nil)))) (pg_name (i := 1) nd rfl (by first | exact Or.inl rfl | exact Or.inr rfl)) (pss_ex fun c =>
    (ms_seq (ms_newO (i := 2) nd rfl (by first | exact Or.inl rfl | exact Or.inr rfl) mo_newD) (ms_seq (ms_for (passes_of rfl) rfl (mi_all (me_slice (me_lst (ma_cons me_str (ma_cons me_str (ma_cons me_str ma_nil)))) (mo_some (me_callO (i := 1) (ok__law_roll Y Z) (hr.mono (by decide)) rfl Y.d__law_roll.g Y.d__law_roll.F.kp Y.d__law_roll.b (L2N.takes_of rfl rfl rfl rfl) rfl (by first | exact Or.inl rfl | exact Or.inr (Or.inl rfl) | exact Or.inr (Or.inr rfl)) (ma_cons me_int ma_nil))) mo_none)) (mgn 3 nd) (ms_one (ms_put (i := 2) (hu_of hr) rfl (by first | exact Or.inl rfl | exact Or.inr (Or.inl rfl) | exact Or.inr (Or.inr rfl)) (mv 3) (me_tup (ma_cons (me_op o_add me_int (me_callO (i := 1) (ok__law_roll Y Z) (hr.mono (by decide)) rfl Y.d__law_roll.g Y.d__law_roll.F.kp Y.d__law_roll.b (L2N.takes_of rfl rfl rfl rfl) rfl (by first | exact Or.inl rfl | exact Or.inr (Or.inl rfl) | exact Or.inr (Or.inr rfl)) (ma_cons me_int ma_nil))) (ma_cons (me_callO (i := 1) (ok__law_roll Y Z) (hr.mono (by decide)) rfl Y.d__law_roll.g Y.d__law_roll.F.kp Y.d__law_roll.b (L2N.takes_of rfl rfl rfl rfl) rfl (by first | exact Or.inl rfl | exact Or.inr (Or.inl rfl) | exact Or.inr (Or.inr rfl)) (ma_cons me_int ma_nil)) ma_nil)))))) (ms_freeze 2 (ms_seq (ms_unpk rfl nd (pnc 4 (pnc 5 PNs.nil)) (ml_dat (me_callB (b_sorted rfl hr.units) rfl Y.n_sorted bt_sorted (ma_cons (mv 2) ma_nil)) (ml_own mo_newL fun c => ml_nil))) (ms_seq (ms_for (passes_of rfl) rfl (mi_range1 rfl Y.n_range (ma_cons (me_callO (i := 1) (ok__law_roll Y Z) (hr.mono (by decide)) rfl Y.d__law_roll.g Y.d__law_roll.F.kp Y.d__law_roll.b (L2N.takes_of rfl rfl rfl rfl) rfl (by first | exact Or.inl rfl | exact Or.inr (Or.inl rfl) | exact Or.inr (Or.inr rfl)) (ma_cons me_int ma_nil)) ma_nil)) (mgn 6 nd) (ms_one (ms_append (i := 5) rfl (by first | exact Or.inl rfl | exact Or.inr (Or.inl rfl) | exact Or.inr (Or.inr rfl)) (me_tup (ma_cons (me_ix (hu_of hr) (mv 4) (me_callO (i := 1) (ok__law_roll Y Z) (hr.mono (by decide)) rfl Y.d__law_roll.g Y.d__law_roll.F.kp Y.d__law_roll.b (L2N.takes_of rfl rfl rfl rfl) rfl (by first | exact Or.inl rfl | exact Or.inr (Or.inl rfl) | exact Or.inr (Or.inr rfl)) (ma_cons (me_callB b_len rfl Y.n_len bt_len (ma_cons (mv 4) ma_nil)) ma_nil)) (fun _ _ => rfl)) (ma_cons (me_op o_add me_int (me_callO (i := 1) (ok__law_roll Y Z) (hr.mono (by decide)) rfl Y.d__law_roll.g Y.d__law_roll.F.kp Y.d__law_roll.b (L2N.takes_of rfl rfl rfl rfl) rfl (by first | exact Or.inl rfl | exact Or.inr (Or.inl rfl) | exact Or.inr (Or.inr rfl)) (ma_cons me_int ma_nil))) ma_nil)))))) (ms_freeze 5 (ms_seq (ms_parL (i := 7) (k := 8) rfl nd rfl rfl (by decide) rfl rfl (ml_dat (me_strE hg hr.units Z.sy rfl Y.n_str bt_str (me_lst (ma_cons (mv 2) (ma_cons (mv 5) ma_nil)))) (ml_dat (me_call (ok__law_bench Y Z) (hr.mono (by decide)) rfl Y.d__law_bench.g Y.d__law_bench.F.kp Y.d__law_bench.b (L2N.takes_of rfl rfl rfl rfl) (ma_cons (mv 2) (ma_cons (mv 5) ma_nil))) ml_nil)) rfl) (ms_seq (ms_set (i := 9) nd rfl (by first | exact Or.inl rfl | exact Or.inr rfl) (me_if (mt_cmp (o_ne hr.units) (mv 5) (me_lst ma_nil) (nomark _)) (me_ix (hu_of hr) (me_ix (hu_of hr) (me_ix (hu_of hr) (mv 8) me_int (fun _ _ => rfl)) (me_neg me_int) (fun _ _ => rfl)) me_int (fun _ _ => rfl)) me_int)) (ms_seq (ms_if (PW.pt (mw_or (mt_cmp (o_ne hr.units) (me_call (ok_bench_rows Y Z) (hr.mono (by decide)) rfl Y.d_bench_rows.g Y.d_bench_rows.F.kp Y.d_bench_rows.b (L2N.takes_of rfl rfl rfl rfl) (ma_cons (mv 2) (ma_cons (mv 5) ma_nil))) (me_ix (hu_of hr) (mv 8) me_int (fun _ _ => rfl)) (nomark _)) (mw_or1 (mt_cmp (o_ne hr.units) (me_call (ok_mends Y Z) (hr.mono (by decide)) rfl Y.d_mends.g Y.d_mends.F.kp Y.d_mends.b (L2N.takes_of rfl rfl rfl rfl) (ma_cons (mv 2) (ma_cons (mv 5) ma_nil))) (me_ix (hu_of hr) (mv 8) me_int (fun _ _ => rfl)) (nomark _))))) (ms_one (ms_ret me_bl)) ms_nil) (ms_seq (ms_if (mt_cmp (o_ne hr.units) (me_call (ok_waited Y Z) (hr.mono (by decide)) rfl Y.d_waited.g Y.d_waited.F.kp Y.d_waited.b (L2N.takes_of rfl rfl rfl rfl) (ma_cons (mv 2) (ma_cons (mv 5) ma_nil))) (me_op o_sub (mv 9) (me_callB (b_sum rfl) rfl Y.n_sum bt_sum (ma_cons (me_lc rfl nd (mi_all (mv 5)) (blk_of [("_law_name", 3), ("_law_beats", 14)] rfl) rfl (fun c s H C cl fp => (mg_tupD rfl (mgc 3 nd (mgc 14 nd mgs_nil)))) (fun c s H C cl fp => mts_nil) (fun c s H C cl fp => (mv 14))) ma_nil))) (nomark _)) (ms_one (ms_ret me_bl)) ms_nil) (ms_seq (ms_if (mt_cmp (o_ne hr.units) (me_strE hg hr.units Z.sy rfl Y.n_str bt_str (me_lst (ma_cons (mv 2) (ma_cons (mv 5) ma_nil)))) (mv 7) (nomark _)) (ms_one (ms_ret me_bl)) ms_nil) (ms_seq (ms_set (i := 10) nd rfl (by first | exact Or.inl rfl | exact Or.inr rfl) (me_slice (mv 5) mo_none (mo_some me_int))) (ms_seq (ms_if (mt_not (mt_val (me_call (ok__law_best_turn_right Y Z) (hr.mono (by decide)) rfl Y.d__law_best_turn_right.g Y.d__law_best_turn_right.F.kp Y.d__law_best_turn_right.b (L2N.takes_of rfl rfl rfl rfl) (ma_cons (mv 2) (ma_cons (mv 10) ma_nil))))) (ms_one (ms_ret me_bl)) ms_nil) (ms_seq (ms_if (PW.pt (mw_and (mt_cmp o_gt (me_callB b_len rfl Y.n_len bt_len (ma_cons (mv 5) ma_nil)) me_int (nomark _)) (mw_and1 (mt_cmp (o_ne hr.units) (me_told (k := 17) Z.U Y.d__law_told.F Y.d__law_told.g Y.d__law_told.b sc__law_told rfl rfl rfl rfl rfl (by first | exact Or.inl rfl | exact Or.inr (Or.inl rfl)) Y.d__law_term.F Y.d__law_term.g Y.d__law_term.b (ok__law_term Y Z) Z.mk_law hcd (hr.mono (by decide)) rfl rfl rfl (fun _ _ _ _ _ => rfl) (fun A outer s H E f c' hr => (me_call (ok_best_made Y Z) (hr.mono (by decide)) rfl Y.d_best_made.g Y.d_best_made.F.kp Y.d_best_made.b (L2N.takes_of rfl rfl rfl rfl) (ma_cons (mv 2) (ma_cons (mv 5) ma_nil))))) (me_tup (ma_cons me_str (ma_cons me_str ma_nil))) (nomark _))))) (ms_one (ms_ret me_bl)) ms_nil) (ms_seq (ms_set (i := 11) nd rfl (by first | exact Or.inl rfl | exact Or.inr rfl) (me_lst (ma_cons me_non (ma_cons me_int (ma_cons me_dnew (ma_cons (me_disp (mp_cons (fun c => me_str) (fun c => (me_tup (ma_cons me_int (ma_cons me_int ma_nil)))) mp_nil) rfl rfl (by simp) (by simp)) (ma_cons (me_disp (mp_cons (fun c => me_str) (fun c => (me_tup (ma_cons me_int (ma_cons me_int ma_nil)))) mp_nil) rfl rfl (by simp) (by simp)) (ma_cons (me_disp (mp_cons (fun c => me_str) (fun c => (me_tup (ma_cons me_int (ma_cons me_int ma_nil)))) mp_nil) rfl rfl (by simp) (by simp)) ma_nil)))))))) (ms_seq (ms_set (i := 11) nd rfl (by first | exact Or.inl rfl | exact Or.inr rfl) (me_op o_add (mv 11) (me_lst (ma_cons (me_disp (mp_cons (fun c => me_str) (fun c => (me_tup (ma_cons me_int (ma_cons me_int ma_nil)))) mp_nil) rfl rfl (by simp) (by simp)) (ma_cons (me_disp (mp_cons (fun c => me_str) (fun c => (me_tup (ma_cons me_int (ma_cons (me_neg me_int) ma_nil)))) mp_nil) rfl rfl (by simp) (by simp)) (ma_cons (me_disp (mp_cons (fun c => me_str) (fun c => (me_lst (ma_cons me_int (ma_cons me_int ma_nil)))) mp_nil) rfl rfl (by simp) (by simp)) (ma_cons (me_disp (mp_cons (fun c => me_str) (fun c => (me_tup (ma_cons me_int ma_nil))) mp_nil) rfl rfl (by simp) (by simp)) ma_nil))))))) (ms_seq (ms_for (passes_of rfl) rfl (mi_all (mv 11)) (mgn 12 nd) (ms_one (ms_if (mt_cmp (o_ne hr.units) (me_told (k := 4) Z.U Y.d__law_told.F Y.d__law_told.g Y.d__law_told.b sc__law_told rfl rfl rfl rfl rfl (by first | exact Or.inl rfl | exact Or.inr (Or.inl rfl)) Y.d__law_term.F Y.d__law_term.g Y.d__law_term.b (ok__law_term Y Z) Z.mk_law hcd (hr.mono (by decide)) rfl rfl rfl (fun _ _ _ _ _ => rfl) (fun A outer s H E f c' hr => (me_call (ok_bench_rows Y Z) (hr.mono (by decide)) rfl Y.d_bench_rows.g Y.d_bench_rows.F.kp Y.d_bench_rows.b (L2N.takes_of rfl rfl rfl rfl) (ma_cons (mv 12) (ma_cons me_non ma_nil))))) (me_tup (ma_cons me_str (ma_cons me_str ma_nil))) (nomark _)) (ms_one (ms_ret me_bl)) ms_nil))) (ms_seq (ms_set (i := 13) nd rfl (by first | exact Or.inl rfl | exact Or.inr rfl) (me_ix (hu_of hr) (mv 4) me_int (fun _ _ => rfl))) (ms_seq (ms_set (i := 11) nd rfl (by first | exact Or.inl rfl | exact Or.inr rfl) (me_lst (ma_cons me_non (ma_cons me_int (ma_cons (me_tup ma_nil) (ma_cons (me_lst (ma_cons me_non ma_nil)) (ma_cons (me_lst (ma_cons (me_tup (ma_cons me_str (ma_cons me_int ma_nil))) ma_nil)) (ma_cons (me_lst (ma_cons (me_tup (ma_cons (mv 13) (ma_cons me_int ma_nil))) ma_nil)) (ma_cons (me_lst (ma_cons (me_tup (ma_cons (mv 13) (ma_cons me_int ma_nil))) ma_nil)) (ma_cons (me_lst (ma_cons (me_tup (ma_cons (mv 13) ma_nil)) ma_nil)) ma_nil)))))))))) (ms_seq (ms_set (i := 11) nd rfl (by first | exact Or.inl rfl | exact Or.inr rfl) (me_op o_add (mv 11) (me_lst (ma_cons (me_lst (ma_cons (me_lst (ma_cons (mv 13) (ma_cons me_int ma_nil))) ma_nil)) (ma_cons (me_lst (ma_cons (me_tup (ma_cons (mv 13) (ma_cons me_bl ma_nil))) ma_nil)) (ma_cons (me_asD (mo_rep (ma_cons (me_tup (ma_cons (mv 13) (ma_cons me_int ma_nil))) ma_nil) me_int)) ma_nil)))))) (ms_one (ms_for (passes_of rfl) rfl (mi_all (mv 11)) (mgn 12 nd) (ms_seq (ms_if (mt_cmp (o_ne hr.units) (me_told (k := 4) Z.U Y.d__law_told.F Y.d__law_told.g Y.d__law_told.b sc__law_told rfl rfl rfl rfl rfl (by first | exact Or.inl rfl | exact Or.inr (Or.inl rfl)) Y.d__law_term.F Y.d__law_term.g Y.d__law_term.b (ok__law_term Y Z) Z.mk_law hcd (hr.mono (by decide)) rfl rfl rfl (fun _ _ _ _ _ => rfl) (fun A outer s H E f c' hr => (me_call (ok_bench_rows Y Z) (hr.mono (by decide)) rfl Y.d_bench_rows.g Y.d_bench_rows.F.kp Y.d_bench_rows.b (L2N.takes_of rfl rfl rfl rfl) (ma_cons (mv 2) (ma_cons (mv 12) ma_nil))))) (me_tup (ma_cons me_str (ma_cons me_str ma_nil))) (nomark _)) (ms_one (ms_ret me_bl)) ms_nil) (ms_one (ms_if (mt_cmp (o_ne hr.units) (me_told (k := 17) Z.U Y.d__law_told.F Y.d__law_told.g Y.d__law_told.b sc__law_told rfl rfl rfl rfl rfl (by first | exact Or.inl rfl | exact Or.inr (Or.inl rfl)) Y.d__law_term.F Y.d__law_term.g Y.d__law_term.b (ok__law_term Y Z) Z.mk_law hcd (hr.mono (by decide)) rfl rfl rfl (fun _ _ _ _ _ => rfl) (fun A outer s H E f c' hr => (me_call (ok_first_turn Y Z) (hr.mono (by decide)) rfl Y.d_first_turn.g Y.d_first_turn.F.kp Y.d_first_turn.b (L2N.takes_of rfl rfl rfl rfl) (ma_cons (mv 2) (ma_cons (mv 12) ma_nil))))) (me_tup (ma_cons me_str (ma_cons me_str ma_nil))) (nomark _)) (ms_one (ms_ret me_bl)) ms_nil))))))))))))))))))))))))))) (pss_one (ps_ret pe_bl)), law_reads (r := 4) (by decide) (by decide) hb h⟩
end
end Mi
set_option Elab.async false
set_option linter.all false
set_option maxRecDepth 100000
set_option maxHeartbeats 0
namespace Mi
open PySem PySem.Spec PyProof.Rows L2
theorem facts {K : Fg} {w : World} {h : Heap} {mg : Str → Option Value} (X : K.In h) (G : h.Ns mainGlobals mg) (cx : He.SaysX fa fn [] tf ex w h K) : ∃ Y : Fx K mg, (∀ (s : Shared) (v : Value), BindsTo s Y.d_law.fd ⟨[v], []⟩ [("_law_script", v)]) ∧ ∀ base : Heap, (∀ p ∈ tf, LamX.TabB base mg (He.cT K p).1 (He.cT K p).2) → Zx Y base (Ts td0 tf K) := by
  have c : He.SaysD fa fn K := cx.t.d
  have hex := cx.more
  unfold ex at hex
  obtain ⟨hexS, hex⟩ := Bool.and_eq_true_iff.mp hex
  rw [Bool.and_eq_true] at hex
  obtain ⟨fd0, F0⟩ := c.def_ 0 (d := e__law_cell) rfl
  obtain ⟨fd1, F1⟩ := c.def_ 1 (d := e__law_rounds) rfl
  obtain ⟨fd2, F2⟩ := c.def_ 2 (d := e__law_drawn) rfl
  obtain ⟨fd3, F3⟩ := c.def_ 3 (d := e__law_roll) rfl
  obtain ⟨fd4, F4⟩ := c.def_ 4 (d := e__law_bench) rfl
  obtain ⟨fd5, F5⟩ := c.def_ 5 (d := e_is_word) rfl
  obtain ⟨fd6, F6⟩ := c.def_ 6 (d := e_is_whole) rfl
  obtain ⟨fd7, F7⟩ := c.def_ 7 (d := e_is_pattern) rfl
  obtain ⟨fd8, F8⟩ := c.def_ 8 (d := e_is_tuple) rfl
  obtain ⟨fd9, F9⟩ := c.def_ 9 (d := e_need_wanted) rfl
  obtain ⟨fd10, F10⟩ := c.def_ 10 (d := e_worked) rfl
  obtain ⟨fd11, F11⟩ := c.def_ 11 (d := e_end_by) rfl
  obtain ⟨fd12, F12⟩ := c.def_ 12 (d := e_waited) rfl
  obtain ⟨fd13, F13⟩ := c.def_ 13 (d := e__law_turns) rfl
  obtain ⟨fd14, F14⟩ := c.def_ 14 (d := e_need_few) rfl
  obtain ⟨fd15, F15⟩ := c.def_ 15 (d := e_turns_of) rfl
  obtain ⟨fd16, F16⟩ := c.def_ 16 (d := e_least_made) rfl
  obtain ⟨fd17, F17⟩ := c.def_ 17 (d := e_best_made) rfl
  obtain ⟨fd18, F18⟩ := c.def_ 18 (d := e_first_turn) rfl
  obtain ⟨fd19, F19⟩ := c.def_ 19 (d := e__law_best_turn_right) rfl
  obtain ⟨fd20, F20⟩ := c.def_ 20 (d := e_bench_rows) rfl
  obtain ⟨fd21, F21⟩ := c.def_ 21 (d := e_mends) rfl
  obtain ⟨fd22, F22⟩ := c.def_ 22 (d := e__law_term) rfl
  obtain ⟨fd23, F23⟩ := c.def_ 23 (d := e__law_told) rfl
  obtain ⟨fd24, F24⟩ := c.def_ 24 (d := e_law) rfl
  have b := FunD.bindsA (ps := ["_law_script"]) F24 fun _ _ _ _ _ _ us hl => match us, hl with | [_], _ => rfl
  exact ⟨⟨⟨_, fd0, He5.fun_of F0, He.glo_ok X G (c.fact 0 (f := .glo "_law_cell") rfl), FunD.bindsN F0 fun _ _ _ _ _ _ us hl => match us, hl with | [_, _], _ => rfl⟩,
    ⟨_, fd1, He5.fun_of F1, He.glo_ok X G (c.fact 1 (f := .glo "_law_rounds") rfl), FunD.bindsN F1 fun _ _ _ _ _ _ us hl => match us, hl with | [_, _], _ => rfl⟩,
    ⟨_, fd2, He5.fun_of F2, He.glo_ok X G (c.fact 2 (f := .glo "_law_drawn") rfl), FunD.bindsN F2 fun _ _ _ _ _ _ us hl => match us, hl with | [_, _], _ => rfl⟩,
    ⟨_, fd3, He5.fun_of F3, He.glo_ok X G (c.fact 3 (f := .glo "_law_roll") rfl), FunD.bindsN F3 fun _ _ _ _ _ _ us hl => match us, hl with | [_, _], _ => rfl⟩,
    ⟨_, fd4, He5.fun_of F4, He.glo_ok X G (c.fact 4 (f := .glo "_law_bench") rfl), FunD.bindsN F4 fun _ _ _ _ _ _ us hl => match us, hl with | [_, _], _ => rfl⟩,
    ⟨_, fd5, He5.fun_of F5, He.glo_ok X G (c.fact 5 (f := .glo "is_word") rfl), FunD.bindsN F5 fun _ _ _ _ _ _ us hl => match us, hl with | [_], _ => rfl⟩,
    ⟨_, fd6, He5.fun_of F6, He.glo_ok X G (c.fact 6 (f := .glo "is_whole") rfl), FunD.bindsN F6 fun _ _ _ _ _ _ us hl => match us, hl with | [_, _, _], _ => rfl⟩,
    ⟨_, fd7, He5.fun_of F7, He.glo_ok X G (c.fact 7 (f := .glo "is_pattern") rfl), FunD.bindsN F7 fun _ _ _ _ _ _ us hl => match us, hl with | [_], _ => rfl⟩,
    ⟨_, fd8, He5.fun_of F8, He.glo_ok X G (c.fact 8 (f := .glo "is_tuple") rfl), FunD.bindsN F8 fun _ _ _ _ _ _ us hl => match us, hl with | [_, _], _ => rfl⟩,
    ⟨_, fd9, He5.fun_of F9, He.glo_ok X G (c.fact 9 (f := .glo "need_wanted") rfl), FunD.bindsN F9 fun _ _ _ _ _ _ us hl => match us, hl with | [_, _], _ => rfl⟩,
    ⟨_, fd10, He5.fun_of F10, He.glo_ok X G (c.fact 10 (f := .glo "worked") rfl), FunD.bindsN F10 fun _ _ _ _ _ _ us hl => match us, hl with | [_, _], _ => rfl⟩,
    ⟨_, fd11, He5.fun_of F11, He.glo_ok X G (c.fact 11 (f := .glo "end_by") rfl), FunD.bindsN F11 fun _ _ _ _ _ _ us hl => match us, hl with | [_, _], _ => rfl⟩,
    ⟨_, fd12, He5.fun_of F12, He.glo_ok X G (c.fact 12 (f := .glo "waited") rfl), FunD.bindsN F12 fun _ _ _ _ _ _ us hl => match us, hl with | [_, _], _ => rfl⟩,
    ⟨_, fd13, He5.fun_of F13, He.glo_ok X G (c.fact 13 (f := .glo "_law_turns") rfl), FunD.bindsN F13 fun _ _ _ _ _ _ us hl => match us, hl with | [_], _ => rfl⟩,
    ⟨_, fd14, He5.fun_of F14, He.glo_ok X G (c.fact 14 (f := .glo "need_few") rfl), FunD.bindsN F14 fun _ _ _ _ _ _ us hl => match us, hl with | [_], _ => rfl⟩,
    ⟨_, fd15, He5.fun_of F15, He.glo_ok X G (c.fact 15 (f := .glo "turns_of") rfl), FunD.bindsN F15 fun _ _ _ _ _ _ us hl => match us, hl with | [_], _ => rfl⟩,
    ⟨_, fd16, He5.fun_of F16, He.glo_ok X G (c.fact 16 (f := .glo "least_made") rfl), FunD.bindsN F16 fun _ _ _ _ _ _ us hl => match us, hl with | [_, _], _ => rfl⟩,
    ⟨_, fd17, He5.fun_of F17, He.glo_ok X G (c.fact 17 (f := .glo "best_made") rfl), FunD.bindsN F17 fun _ _ _ _ _ _ us hl => match us, hl with | [_, _], _ => rfl⟩,
    ⟨_, fd18, He5.fun_of F18, He.glo_ok X G (c.fact 18 (f := .glo "first_turn") rfl), FunD.bindsN F18 fun _ _ _ _ _ _ us hl => match us, hl with | [_, _], _ => rfl⟩,
    ⟨_, fd19, He5.fun_of F19, He.glo_ok X G (c.fact 19 (f := .glo "_law_best_turn_right") rfl), FunD.bindsN F19 fun _ _ _ _ _ _ us hl => match us, hl with | [_, _], _ => rfl⟩,
    ⟨_, fd20, He5.fun_of F20, He.glo_ok X G (c.fact 20 (f := .glo "bench_rows") rfl), FunD.bindsN F20 fun _ _ _ _ _ _ us hl => match us, hl with | [_, _], _ => rfl⟩,
    ⟨_, fd21, He5.fun_of F21, He.glo_ok X G (c.fact 21 (f := .glo "mends") rfl), FunD.bindsN F21 fun _ _ _ _ _ _ us hl => match us, hl with | [_, _], _ => rfl⟩,
    ⟨_, fd22, He5.fun_of F22, He.glo_ok X G (c.fact 22 (f := .glo "_law_term") rfl), FunD.bindsN F22 fun _ _ _ _ _ _ us hl => match us, hl with | [_], _ => rfl⟩,
    ⟨_, fd23, He5.fun_of F23, He.glo_ok X G (c.fact 23 (f := .glo "_law_told") rfl), FunD.bindsN F23 fun _ _ _ _ _ _ us hl => match us, hl with | [_], _ => rfl⟩,
    ⟨_, fd24, He5.fun_of F24, He.glo_ok X G (c.fact 24 (f := .glo "law") rfl), FunD.bindsN F24 fun _ _ _ _ _ _ us hl => match us, hl with | [_], _ => rfl⟩,
    He.free_ok X G (c.fact 25 (f := .free "len") rfl),
    He.free_ok X G (c.fact 26 (f := .free "range") rfl),
    He.free_ok X G (c.fact 27 (f := .free "max") rfl),
    He.free_ok X G (c.fact 28 (f := .free "min") rfl),
    He.free_ok X G (c.fact 29 (f := .free "dict") rfl),
    He.free_ok X G (c.fact 30 (f := .free "sorted") rfl),
    He.free_ok X G (c.fact 31 (f := .free "isinstance") rfl),
    He.free_ok X G (c.fact 32 (f := .free "str") rfl),
    He.free_ok X G (c.fact 33 (f := .free "all") rfl),
    He.free_ok X G (c.fact 34 (f := .free "int") rfl),
    He.free_ok X G (c.fact 35 (f := .free "bool") rfl),
    He.free_ok X G (c.fact 36 (f := .free "tuple") rfl),
    He.free_ok X G (c.fact 37 (f := .free "list") rfl),
    He.free_ok X G (c.fact 38 (f := .free "sum") rfl),
    He.free_ok X G (c.fact 39 (f := .free "enumerate") rfl),
    He.free_ok X G (c.fact 40 (f := .free "ValueError") rfl),
    He.str_ok X G (c.fact 41 (f := .str "SMALL" "abcdefghijklmnopqrstuvwxyz") rfl)⟩, fun s v => b s [v] rfl, fun base TB => ⟨toldF_of X G hex.1, hexS, mkr_of (st := top 46) (He5.fun_of F24) (by decide +kernel) hex.2 TB⟩⟩
theorem cx_none {P : Program} {w : World} {H : Hp} {s : Shared} {e : Value} {s1 : Shared} (h : L2N.CX P w [] H s (fun _ _ _ => False) e s1) : False := by
  obtain ⟨a, B, H1, cls, d, _, _, _, _, _, _, _, z⟩ := h
  exact z
end Mi
open PySem PySem.W PySem.Calls PyProof.Rows
theorem Mi.holds_of (hb : Mi.RoundOk 15 Mi.b_law) : PySem.Challenge.rw_castinghall_k30_whole_patterns.Holds := by
  w_on; o_law
  refine HandSHeadRun.head_any (r := OpenLaw.row PySem.Challenge.rw_castinghall_k30_whole_patterns) (q := view (OpenLaw.row PySem.Challenge.rw_castinghall_k30_whole_patterns).prog [46]) (H := Mi.hk) (ob := Mi.ob) (M := 20000) (loose := Mi.loose) (d := HandSHeadRun.topDef (OpenLaw.row PySem.Challenge.rw_castinghall_k30_whole_patterns).prog 46) (kwd := []) Mi.ob_eq
    (by kernel_rfl) (fun s => by kernel_rfl) Mi.run (by kernel_rfl) (by kernel_rfl) (by kernel_rfl) (by rfl) (by first | assumption | decide +kernel) (by decide +kernel) ⟨rfl, rfl, rfl, rfl, rfl, by decide +kernel⟩ ?hw ?hc
  case hw => w_witness2
  case hc =>
    refine Mi.walk_G (l := PySem.Challenge.rw_castinghall_k30_whole_patterns) (n := 63) (k := 20) (x := "_law_script") (CX := fun w => L2N.CX (PySem.Challenge.rw_castinghall_k30_whole_patterns).prog w) rfl (by decide) (by kernel_rfl) ⟨rfl, by decide, by decide⟩ ?F (fun _ _ _ _ _ z => Mi.cx_none z)
    intro w mg fa h Y G hmg0
    obtain ⟨K, KX, c⟩ := Y
    have hmg : mg ("law" : PySem.Str) = some (.ref fa) := by
      have e : (HandSHeadRun.topDef (OpenLaw.row PySem.Challenge.rw_castinghall_k30_whole_patterns).prog 46).name = ("law" : PySem.Str) := by kernel_rfl
      rw [← e]
      exact hmg0
    obtain ⟨Y, hbd, hZ⟩ := Mi.facts KX G c
    have e := hmg.symm.trans Y.d_law.g
    cases e
    exact ⟨K, KX, Y.d_law.fd, Mi.tf.map (He.cT K), Mi.spLaw K (Mi.Ts Mi.td0 Mi.tf K), (fun p hp => by obtain ⟨p', hp', rfl⟩ := List.mem_map.mp hp; exact c.empty p' hp'), (fun p hp => by obtain ⟨p', hp', rfl⟩ := List.mem_map.mp hp; exact c.out p' hp'), (fun p hp => by obtain ⟨p', hp', rfl⟩ := List.mem_map.mp hp; exact PySem.W.codeHd_of_K KX (c.hd p' hp')), hbd, fun H a ns hl _ hT hS => ⟨a, ns, rfl, hS, by omega, Mi.tabs_of hT, fun _ => rfl⟩, fun base _ _ TB => Mi.ok_law Y (hZ base fun p hp => TB _ (List.mem_map.mpr ⟨p, hp, rfl⟩)) hb⟩
set_option Elab.async false
set_option linter.all false
set_option maxRecDepth 100000
set_option maxHeartbeats 4000000
namespace Mi
open PySem L2
theorem log2_lt_of {n k : Nat} (h : n < 2 ^ k) (hk : 0 < k) : n.log2 < k := by
  by_cases z : n = 0
  · subst z; simpa using hk
  · exact (Nat.log2_lt z).mpr h
theorem mulOk_r {i j : Int} (h : -(2 ^ 64) < j) (h2 : j < 2 ^ 64) : mulOk i j = true := by
  unfold mulOk
  have a : decide (-(2 ^ 64) < j) = true := decide_eq_true h
  have b : decide (j < 2 ^ 64) = true := decide_eq_true h2
  rw [a, b]
  simp
theorem mulOk_w {i j : Int} (h : i.natAbs < 2 ^ 400) (h2 : j.natAbs < 2 ^ 400) : mulOk i j = true := by
  have a := log2_lt_of h (by decide)
  have b := log2_lt_of h2 (by decide)
  unfold mulOk
  have c : decide (i.natAbs.log2 + j.natAbs.log2 < 1000000) = true := decide_eq_true (by omega)
  rw [c]
  simp
theorem mulOk_n {i j : Int} (h0 : 0 ≤ i) (h : i < 2 ^ 300) (h1 : 0 ≤ j) (h2 : j < 2 ^ 300) : mulOk i j = true :=
  mulOk_w (by have : (2 : Int) ^ 300 < 2 ^ 400 := by decide
              have e : ((i.natAbs : Nat) : Int) = i := Int.natAbs_of_nonneg h0
              have : ((i.natAbs : Nat) : Int) < ((2 ^ 400 : Nat) : Int) := by rw [e]; exact Int.lt_trans h this
              exact Int.ofNat_lt.mp this)
    (by have : (2 : Int) ^ 300 < 2 ^ 400 := by decide
        have e : ((j.natAbs : Nat) : Int) = j := Int.natAbs_of_nonneg h1
        have : ((j.natAbs : Nat) : Int) < ((2 ^ 400 : Nat) : Int) := by rw [e]; exact Int.lt_trans h2 this
        exact Int.ofNat_lt.mp this)
theorem drawn_ok (x y : Int) : ∃ r : Int, m__law_drawn [.int x, .int y] = .ok (.int r) := by
  unfold m__law_drawn b__law_drawn
  have h1 : ∀ i, mulOk i 6364136223846793005 = true := fun i => mulOk_r (by decide) (by decide)
  have h2 : ∀ i, mulOk i 1442695040888963407 = true := fun i => mulOk_r (by decide) (by decide)
  have lg : Nat.log2 18446744073709551557 < 9000 := log2_lt_of (Nat.lt_trans (by decide : 18446744073709551557 < 2 ^ 64) (by decide)) (by decide)
  simp [h1, h2, lg]
  generalize ha : (x * 6364136223846793005 + (y + 1) * 1442695040888963407) % 340282366920938463463374607431768211507 = a
  have a0 : 0 ≤ a := by rw [← ha]; exact Int.emod_nonneg _ (by decide)
  have a1 : a < 340282366920938463463374607431768211507 := by rw [← ha]; exact Int.emod_lt_of_pos _ (by decide)
  have m1 : mulOk a a = true := mulOk_n a0 (Int.lt_trans a1 (by decide)) a0 (Int.lt_trans a1 (by decide))
  rw [if_pos m1]
  generalize hc : a * a % 340282366920938463463374607431768211297 = c
  have c0 : 0 ≤ c := by rw [← hc]; exact Int.emod_nonneg _ (by decide)
  have c1 : c < 340282366920938463463374607431768211297 := by rw [← hc]; exact Int.emod_lt_of_pos _ (by decide)
  generalize hr : c % 18446744073709551557 = r
  have r0 : 0 ≤ r := by rw [← hr]; exact Int.emod_nonneg _ (by decide)
  have r1 : r < 18446744073709551557 := by rw [← hr]; exact Int.emod_lt_of_pos _ (by decide)
  generalize hq : c / 18446744073709551557 = q
  have q0 : 0 ≤ q := by rw [← hq]; exact Int.ediv_nonneg c0 (by decide)
  have q1 : q < 36893488147419103232 := by rw [← hq]; exact Int.ediv_lt_of_lt_mul (by decide) (Int.lt_trans c1 (by decide))
  have m2 : mulOk (r + 1) (q + 1) = true := mulOk_n (by omega) (Int.lt_trans (show r + 1 < 18446744073709551559 by omega) (by decide)) (by omega) (Int.lt_trans (show q + 1 < 36893488147419103233 by omega) (by decide))
  rw [if_pos m2]
  have p0 : 0 ≤ (r + 1) * (q + 1) := Int.mul_nonneg (by omega) (by omega)
  have p1 : (r + 1) * (q + 1) ≤ 18446744073709551558 * 36893488147419103232 := Int.mul_le_mul (by omega) (by omega) (by omega) (by decide)
  have m3 : mulOk ((r + 1) * (q + 1)) c = true := mulOk_n p0 (Int.lt_of_le_of_lt p1 (by decide)) c0 (Int.lt_trans c1 (by decide))
  rw [if_pos m3]
  exact ⟨_, rfl⟩
theorem roll_ok (x y m : Int) (h0 : 0 < m) (h1 : m < 2 ^ 20) : ∃ r x' y' : Int, 0 ≤ r ∧ r < m ∧ m__law_roll [.int x, .int y] [.int m] = .ok (.int r, [.int x', .int y']) := by
  have lg : m.natAbs.log2 < 9000 := log2_lt_of (k := 9000) (Nat.lt_of_lt_of_le (show m.natAbs < 2 ^ 20 by omega) (Nat.pow_le_pow_right (by decide) (by decide))) (by decide)
  have lg8 : Nat.log2 8 < 9000 := Nat.lt_trans (log2_lt_of (n := 8) (k := 4) (by decide) (by decide)) (by decide)
  unfold m__law_roll b__law_roll
  obtain ⟨d, hd⟩ := drawn_ok x (y + 1)
  by_cases hx : 1000000000000000000 ≤ x
  · refine ⟨x % m, x / m, y, Int.emod_nonneg _ (by omega), Int.emod_lt_of_pos _ h0, ?_⟩
    simp [hx, h0, lg]
  · refine ⟨d / 8 % m, x, y + 1, Int.emod_nonneg _ (by omega), Int.emod_lt_of_pos _ h0, ?_⟩
    simp [hx, h0, hd, lg8]
end Mi
set_option Elab.async false
set_option linter.all false
set_option maxRecDepth 100000
set_option maxHeartbeats 4000000
namespace Mi
open PySem L2
theorem forD_step {gt : D → MSt → Option MSt} {s : MM Fl} {x : D} {xs : List D} {ρ ρ1 ρ2 : MSt} (h1 : gt x ρ = some ρ1) (h2 : s ρ1 = .ok .nx ρ2) : forD gt s (x :: xs) ρ = forD gt s xs ρ2 := by
  rw [forD_cons, h1, forG_some, h2, forK_nx]
theorem inB_of {i : Int} (h0 : 0 ≤ i) (h1 : i ≤ 1000000) : inB i = true := by
  unfold inB
  have a : decide (-(2 ^ 62) ≤ i) = true := decide_eq_true (Int.le_trans (by decide) h0)
  have b : decide (i < 2 ^ 62) = true := decide_eq_true (Int.lt_of_le_of_lt h1 (by decide))
  rw [a, b]; rfl
theorem rng_nat {n : Nat} (hn : n ≤ 1000) : range1 [.int (n : Nat)] = .ok ((List.range n).map fun i : Nat => .int (i : Int)) := by
  rw [range1_ap, if_pos (inB_of (by omega) (by omega)), Int.toNat_natCast]
  unfold upTo
  congr 1
  exact List.map_congr_left fun k _ => by show D.int _ = D.int _; rw [Int.zero_add]
theorem wp_last {s : MM Fl} {ρ ρ' : MSt} {Q : Fl → MSt → Prop} (h : s ρ = .ok .nx ρ') (q : Q .nx ρ') : Wp (s ρ) Q := by
  rw [h]
  exact wp_ok.mpr q
theorem wp_frz {s : MM Fl} {i : Nat} {ρ ρ' : MSt} {Q : Fl → MSt → Prop} (e : frzS i ρ = ρ') (h : Wp (s ρ') Q) : Wp ((fun ρ => s (frzS i ρ)) ρ) Q := by
  subst e
  exact h
theorem eq_ii (i j : Int) : dEq (.int i) (.int j) = .ok (.bool (decide (i = j))) := by
  have f : ∀ i : Int, eqOk (.int i) = true := fun _ => rfl
  rw [dEq_ap, if_pos ⟨f i, f j⟩]
  have : D.eqv (.int i) (.int j) = decide (i = j) := by
    show (i == j) = _
    rw [Bool.eq_iff_iff]; simp
  rw [this]
end Mi
set_option Elab.async false
set_option linter.all false
set_option maxRecDepth 100000
set_option maxHeartbeats 4000000
namespace Mi
open PySem L2
abbrev Stf := List (Str × Int)
def e2 (p : Str × Int) : D := .tuple [.str p.1, .int p.2]
def e3 (p : Str × Int × Int) : D := .tuple [.str p.1, .int p.2.1, .int p.2.2]
def encS (s : Stf) : D := .tuple (s.map e2)
def eL (p : Int × Stf) : D := .tuple [.int p.1, encS p.2]
def smallL : List Nat := ("abcdefghijklmnopqrstuvwxyz" : Str).cps.toList
def isWordB (u : Str) : Bool := (decide (1 ≤ u.length) && decide (u.length ≤ 8)) && u.cps.toList.all fun c => decide (c ∈ smallL)
def chD (c : Nat) : D := .str ⟨#[c]⟩
theorem charsD_eq (u : Str) : charsD u = u.cps.toList.map chD := rfl
theorem in_small (c : Nat) : inB0 (chD c) (.str "abcdefghijklmnopqrstuvwxyz") = some (decide (c ∈ smallL)) := rfl
theorem word_str (u : Str) (h : u.length ≤ 16777216) : m_is_word [.str u] = .ok (.bool (isWordB u)) := by
  by_cases z : u.length ≤ 8
  · have hl : u.cps.toList.length < 16777216 := by
      have : u.cps.toList.length = u.length := by simp [Str.length]
      omega
    have hc := compL_mapT (os := [1]) (gt := setD 1) (el := c_is_word_1) (enc := chD) (f := fun c => .bool (decide (c ∈ smallL))) (ρ := [some (.d (.str u)), none, none]) (l := u.cps.toList) hl (by simp) fun c _ => ⟨[some (.d (.str u)), some (.d (chD c)), none], by simp, by simp, by simp [c_is_word_1, in_small]⟩
    simp only [m_is_word, b_is_word]
    simp [-compL_ap, charsD_eq, hc, toBools_map, h, isWordB]
    by_cases y : 1 ≤ u.length
    · have y1 : (1 : Int) ≤ u.length := by omega
      have z1 : (u.length : Int) ≤ 8 := by omega
      simp [y, z, y1, z1]
    · have y1 : ¬ (1 : Int) ≤ u.length := by omega
      simp [y, y1]
  · simp only [m_is_word, b_is_word, isWordB]
    have z1 : ¬ (u.length : Int) ≤ 8 := by omega
    simp [-compL_ap, h, z, z1]
theorem whole_int (i lo hi : Int) : m_is_whole [.int i, .int lo, .int hi] = .ok (.bool (decide (lo ≤ i) && decide (i ≤ hi))) := by
  simp [m_is_whole, b_is_whole]
theorem whole_bool (b : Bool) (lo hi : D) : m_is_whole [.bool b, lo, hi] = .ok (.bool false) := by
  have : isBool (.bool b) = true := rfl
  simp [m_is_whole, b_is_whole, this]
theorem eqOk_int (i : Int) : eqOk (.int i) = true := rfl
theorem eqOk_str {u : Str} (h : PyData.strOk u = true) : eqOk (.str u) = true := by
  exact (flt_str h).ok
theorem tuple_row (u : Str) (r : List D) (m : Int) (h : u.length ≤ 16777216) : m_is_tuple [.tuple (.str u :: r), .int m] = .ok (.bool (decide (((r.length + 1 : Nat) : Int) = m) && isWordB u)) := by
  simp [m_is_tuple, b_is_tuple, eqOk_int, word_str u h]
theorem strOk_word {u : Str} (h : isWordB u = true) : PyData.strOk u = true := by
  simp only [isWordB, Bool.and_eq_true, List.all_eq_true, decide_eq_true_eq] at h
  unfold PyData.strOk
  rw [Array.all_eq_true']
  intro c hc
  have h2 := h.2 c (by simpa using hc)
  have : ∀ c ∈ smallL, c < 0x110000 := by decide +kernel
  simpa using this c h2
theorem len_word {u : Str} (h : isWordB u = true) : u.length ≤ 16777216 := by
  simp only [isWordB, Bool.and_eq_true, decide_eq_true_eq] at h
  omega
theorem flt_e3 {p : Str × Int × Int} (h : isWordB p.1 = true) : Flt 1 (e3 p) := flt_tuple (by intro x m; simp at m; rcases m with rfl | rfl | rfl; exact flt_str (strOk_word h); exact flt_int _; exact flt_int _)
theorem flt_e2 {p : Str × Int} (h : isWordB p.1 = true) : Flt 1 (e2 p) := flt_tuple (by intro x m; simp at m; rcases m with rfl | rfl; exact flt_str (strOk_word h); exact flt_int _)
end Mi
set_option Elab.async false
set_option linter.all false
set_option maxRecDepth 100000
set_option maxHeartbeats 1000000
namespace Mi
open PySem L2
def turnsF {α : Type} : Nat → List α → List (List α)
  | 0, _ => []
  | n + 1, xs => if xs.isEmpty then [[]] else (List.range xs.length).flatMap fun i => match xs[i]? with
    | some x => (turnsF n (xs.eraseIdx i)).map (x :: ·)
    | none => []
theorem turns_perm {α : Type} : ∀ (n : Nat) (xs tn : List α), xs.length < n → (tn ∈ turnsF n xs ↔ tn.Perm xs)
  | 0, xs, tn, h => by omega
  | n + 1, [], tn, h => by
    rw [turnsF]
    simp
  | n + 1, x :: xs, tn, h => by
    rw [turnsF, if_neg (by simp)]
    have key : ∀ i, i < (x :: xs).length → ∃ a, (x :: xs)[i]? = some a ∧ (x :: xs).Perm (a :: (x :: xs).eraseIdx i) := fun i hi => by
      have gen : ∀ (l : List α) (i : Nat) (h : i < l.length), l.Perm (l[i] :: l.eraseIdx i) := fun l => by
        induction l with
        | nil => intro i h; simp at h
        | cons a l ih =>
          intro i h
          cases i with
          | zero => exact List.Perm.refl _
          | succ i =>
            simp only [List.getElem_cons_succ, List.eraseIdx_cons_succ]
            exact ((ih i (by simpa using h)).cons a).trans (List.Perm.swap _ a _)
      exact ⟨_, List.getElem?_eq_getElem hi, gen _ i hi⟩
    constructor
    · intro m
      obtain ⟨i, mi, q⟩ := List.mem_flatMap.mp m
      obtain ⟨a, ea, pa⟩ := key i (List.mem_range.mp mi)
      rw [ea] at q
      obtain ⟨t, mt, rfl⟩ := List.mem_map.mp q
      have hl : ((x :: xs).eraseIdx i).length < n := by
        have := pa.length_eq
        simp at this h ⊢
        omega
      exact (((turns_perm n _ t hl).mp mt).cons a).trans pa.symm
    · intro p
      cases tn with
      | nil => exact absurd p.symm.eq_nil (by simp)
      | cons a t =>
        obtain ⟨i, hi, ea⟩ := List.getElem_of_mem (p.mem_iff.mp (List.mem_cons_self (a := a) (l := t)))
        obtain ⟨a', ea', pa⟩ := key i hi
        rw [List.getElem?_eq_getElem hi, ea] at ea'
        cases ea'
        have hl : ((x :: xs).eraseIdx i).length < n := by
          have := pa.length_eq
          simp at this h ⊢
          omega
        refine List.mem_flatMap.mpr ⟨i, List.mem_range.mpr hi, ?_⟩
        rw [List.getElem?_eq_getElem hi, ea]
        exact List.mem_map.mpr ⟨t, (turns_perm n _ t hl).mpr ((p.trans pa).cons_inv), rfl⟩
def fac : Nat → Nat
  | 0 => 1
  | m + 1 => (m + 1) * fac m
theorem flat_len {α β : Type} {f : α → List β} {m : Nat} : ∀ {l : List α}, (∀ a ∈ l, (f a).length ≤ m) → (l.flatMap f).length ≤ l.length * m
  | [], _ => by simp
  | a :: l, h => by
    have h1 := h a List.mem_cons_self
    have h2 := flat_len (l := l) fun b mb => h b (List.mem_cons_of_mem _ mb)
    rw [List.flatMap_cons, List.length_append, List.length_cons, Nat.add_mul]
    omega
theorem turns_len {α : Type} : ∀ (n : Nat) (xs : List α), (turnsF n xs).length ≤ fac xs.length
  | 0, _ => by simp [turnsF]
  | n + 1, xs => by
    rw [turnsF]
    cases xs with
    | nil => simp [fac]
    | cons x xs =>
      rw [if_neg (by simp)]
      have := flat_len (m := fac xs.length) (l := List.range (x :: xs).length) (f := fun i => match (x :: xs)[i]? with
        | some y => (turnsF n ((x :: xs).eraseIdx i)).map (y :: ·)
        | none => []) fun i mi => by
          have hi := List.mem_range.mp mi
          rw [List.getElem?_eq_getElem hi]
          show ((turnsF n ((x :: xs).eraseIdx i)).map _).length ≤ _
          rw [List.length_map]
          have := turns_len n ((x :: xs).eraseIdx i)
          rw [List.length_eraseIdx_of_lt hi] at this
          simpa using this
      rw [List.length_range] at this
      exact this
def partsF {α : Type} (n : Nat) : List α → List α → List (List α)
  | _, [] => []
  | pre, x :: rest => (turnsF n (pre ++ rest)).map (x :: ·) ++ partsF n (pre ++ [x]) rest
theorem parts_eq {α : Type} (n : Nat) (xs : List α) : ∀ (rest pre : List α), xs = pre ++ rest → ((List.range' pre.length rest.length).flatMap fun i => match xs[i]? with
    | some x => (turnsF n (xs.eraseIdx i)).map (x :: ·)
    | none => []) = partsF n pre rest
  | [], pre, e => by simp [partsF]
  | x :: rest, pre, e => by
    have ih := parts_eq n xs rest (pre ++ [x]) (by rw [e]; simp)
    rw [List.length_cons, List.range'_succ, List.flatMap_cons, partsF]
    have e1 : xs[pre.length]? = some x := by rw [e]; simp
    have e2 : xs.eraseIdx pre.length = pre ++ rest := by
      rw [e, List.eraseIdx_append_of_length_le (by simp)]
      simp
    rw [e1, e2]
    rw [List.length_append] at ih
    show (turnsF n (pre ++ rest)).map (x :: ·) ++ _ = _
    rw [← ih]
    rfl
theorem turns_parts {α : Type} (n : Nat) (xs : List α) (h : xs ≠ []) : turnsF (n + 1) xs = partsF n [] xs := by
  rw [turnsF, if_neg (by simpa using h), List.range_eq_range']
  exact parts_eq n xs xs [] rfl
def lstE {α : Type} (enc : α → D) (l : List α) : D := .list (l.map enc)
theorem tn_body {α : Type} {r : List D → Res D} {enc : α → D} {R N : D} {acc ts new : List D} {i : Int} {x P Q : D} {ps qs : List D} {r4 : Option S} (h1 : sliceD R none (some i) = .ok (.list ps)) (h2 : sliceD R (some (i + 1)) none = .ok (.list qs)) (hl : ps.length + qs.length ≤ 16777216) (h3 : r [.list (ps ++ qs)] = .ok (.list ts))
    (h4 : compL [4] (setD 4) (MM.pure true) (c__law_turns_1 r) ts [some (.d R), some (.d (.list acc)), some (.d (.int i)), some (.d x), none, none] = .ok (.list new) [some (.d R), some (.d (.list acc)), some (.d (.int i)), some (.d x), none, none]) (hl2 : acc.length + new.length ≤ 16777216) :
    b__law_turns_1 r [some (.d R), some (.d (.list acc)), some (.d (.int i)), some (.d x), none, none] = .ok .nx [some (.d R), some (.d (.list (acc ++ new))), some (.d (.int i)), some (.d x), none, none] := by
  unfold b__law_turns_1
  simp [-compL_ap, h1, h2, h3, h4, hl, hl2]
theorem tn_loop {α : Type} {enc : α → D} {n : Nat} {r : List D → Res D} (xs : List α) (hx : xs.length ≤ 6) (hr : ∀ l : List α, l.length < xs.length → (∀ a ∈ l, a ∈ xs) → r [lstE enc l] = .ok (.list ((turnsF n l).map (lstE enc)))) : ∀ (rest pre : List α) (acc : List (List α)) (a2 a3 : Option S), xs = pre ++ rest → acc.length + rest.length * 720 ≤ 100000 → ∃ a2' a3',
    forD (setT [2, 3]) (b__law_turns_1 r) (enumD pre.length (rest.map enc)) [some (.d (lstE enc xs)), some (.d (.list (acc.map (lstE enc)))), a2, a3, none, none] = .ok .nx [some (.d (lstE enc xs)), some (.d (.list ((acc ++ partsF n pre rest).map (lstE enc)))), a2', a3', none, none]
  | [], pre, acc, a2, a3, _, _ => ⟨a2, a3, by simp [enumD, partsF]⟩
  | x :: rest, pre, acc, a2, a3, e, hl => by
    have hlen : (pre ++ rest).length < xs.length := by rw [e]; simp
    have hlen2 : (pre ++ rest).length ≤ 6 := by omega
    have hfac : ∀ m, m ≤ 6 → fac m ≤ 720 := by decide
    have htl : (turnsF n (pre ++ rest)).length ≤ 720 := Nat.le_trans (turns_len n _) (hfac _ hlen2)
    have hsz : ∀ t ∈ turnsF n (pre ++ rest), t.length ≤ 100 := fun t m => by
      have ub : ∀ (n : Nat) (ys t : List α), t ∈ turnsF n ys → t.length ≤ ys.length := fun n => by
        induction n with
        | zero => intro ys t m; simp [turnsF] at m
        | succ n ih =>
          intro ys t m
          rw [turnsF] at m
          cases ys with
          | nil => simp at m; simp [m]
          | cons y ys =>
            rw [if_neg (by simp)] at m
            obtain ⟨i, mi, q⟩ := List.mem_flatMap.mp m
            have hi := List.mem_range.mp mi
            rw [List.getElem?_eq_getElem hi] at q
            obtain ⟨u, mu, rfl⟩ := List.mem_map.mp q
            have := ih _ u mu
            rw [List.length_eraseIdx_of_lt hi] at this
            simp at this ⊢
            omega
      have := ub n _ t m
      omega
    have h1 : sliceD (lstE enc xs) none (some ((pre.length : Nat) : Int)) = .ok (.list (pre.map enc)) := by
      show Res.ok (D.list (cutD (xs.map enc) none (some ((pre.length : Nat) : Int)))) = _
      rw [cut_to enc xs pre.length (by rw [e]; simp), e, List.take_left]
    have h2 : sliceD (lstE enc xs) (some ((pre.length : Nat) + 1)) none = .ok (.list (rest.map enc)) := by
      show Res.ok (D.list (cutD (xs.map enc) (some ((pre.length : Nat) + 1)) none)) = _
      have := cut_from enc xs (pre.length + 1) (by rw [e]; simp)
      rw [show (((pre.length + 1 : Nat)) : Int) = (pre.length : Int) + 1 by omega] at this
      rw [this, e]
      have : (pre ++ x :: rest).drop (pre.length + 1) = rest := by simp [List.drop_append]
      rw [this]
    have h3 : r [.list (pre.map enc ++ rest.map enc)] = .ok (.list ((turnsF n (pre ++ rest)).map (lstE enc))) := by
      rw [← List.map_append]
      exact hr (pre ++ rest) hlen fun a m => by
        rw [e]
        rcases List.mem_append.mp m with m | m
        · exact List.mem_append_left _ m
        · exact List.mem_append_right _ (List.mem_cons_of_mem _ m)
    have h4 := compL_mapT (os := [4]) (gt := setD 4) (el := c__law_turns_1 r) (enc := lstE enc) (f := fun t => lstE enc (x :: t)) (l := turnsF n (pre ++ rest))
      (ρ := [some (.d (lstE enc xs)), some (.d (.list (acc.map (lstE enc)))), some (.d (.int (pre.length : Nat))), some (.d (enc x)), none, none]) (by omega) (by simp) fun t m => by
        have hz := hsz t m
        refine ⟨[some (.d (lstE enc xs)), some (.d (.list (acc.map (lstE enc)))), some (.d (.int (pre.length : Nat))), some (.d (enc x)), some (.d (lstE enc t)), none], by simp, by simp, ?_⟩
        have h9 : 1 + t.length ≤ 16777216 := by omega
        unfold lstE
        simp [c__law_turns_1, h9]
    have hp : pre.length ≤ 6 ∧ rest.length ≤ 6 := by simp at hlen2; omega
    simp at hl
    have st := tn_body (enc := enc) (N := .none) (P := .none) (Q := .none) (r4 := none) h1 h2 (by simp; omega) h3 h4 (by simp; omega)
    obtain ⟨b2, b3, ih⟩ := tn_loop xs hx hr rest (pre ++ [x]) (acc ++ (turnsF n (pre ++ rest)).map (x :: ·)) (some (.d (.int (pre.length : Nat)))) (some (.d (enc x))) (by rw [e]; simp) (by simp; omega)
    refine ⟨b2, b3, ?_⟩
    rw [List.length_append] at ih
    have e9 : acc.map (lstE enc) ++ (turnsF n (pre ++ rest)).map (fun t => lstE enc (x :: t)) = (acc ++ (turnsF n (pre ++ rest)).map (x :: ·)).map (lstE enc) := by
      rw [List.map_append, List.map_map]; rfl
    rw [e9] at st
    rw [List.map_cons, enumD, forD_step (by simp [setT, setMany]) st]
    rw [partsF, ← List.append_assoc]
    exact ih
theorem tn0_body {r : List D → Res D} {R : D} (h : dEq R (.list []) = .ok (.bool true)) : runF 5 1 (b__law_turns r) [R] = .ok (.list [.list []]) := by
  unfold b__law_turns
  simp [h, -dEq_ap]
theorem tn1_body {r : List D → Res D} {xs ts : List D} {a2 a3 : Option S} (h : dEq (.list xs) (.list []) = .ok (.bool false)) (h2 : forD (setT [2, 3]) (b__law_turns_1 r) (enumD 0 xs) [some (.d (.list xs)), some (.d (.list [])), none, none, none, none] = .ok .nx [some (.d (.list xs)), some (.d (.list ts)), a2, a3, none, none]) : runF 5 1 (b__law_turns r) [.list xs] = .ok (.list ts) := by
  have he : enumA [.list xs] = .ok (enumD 0 xs) := rfl
  unfold b__law_turns
  simp [h, -dEq_ap, he, h2]
theorem dEq_nilL {xs : List D} {n : Nat} (hn : n ≤ 50) (h : ∀ x ∈ xs, Flt n x) : dEq (.list xs) (.list []) = .ok (.bool (decide (xs = []))) := by
  have f1 : Flt (n + 1) (.list xs) := flt_list h
  rw [dEq_ap, if_pos ⟨f1.ok (by omega), rfl⟩, eqv_list]
  cases xs with
  | nil => rfl
  | cons a b => simp
theorem turns_eq {α : Type} {enc : α → D} {k : Nat} (hk : k ≤ 40) : ∀ (n : Nat) (xs : List α), xs.length < n → xs.length ≤ 6 → (∀ a ∈ xs, Flt k (enc a)) → m__law_turns n [lstE enc xs] = .ok (.list ((turnsF n xs).map (lstE enc)))
  | 0, xs, h, _, _ => by omega
  | n + 1, xs, h, h6, hf => by
    have hd := dEq_nilL (n := k) (by omega) (xs := xs.map enc) fun d m => by
      obtain ⟨a, ma, rfl⟩ := List.mem_map.mp m
      exact hf a ma
    show runF 5 1 (b__law_turns (m__law_turns n)) [lstE enc xs] = _
    by_cases z : xs = []
    · subst z
      have := tn0_body (r := m__law_turns n) (R := lstE enc []) hd
      rw [this]
      rfl
    · have hd' : dEq (.list (xs.map enc)) (.list []) = .ok (.bool false) := by
        rw [hd]
        simp [z]
      obtain ⟨a2, a3, e⟩ := tn_loop (enc := enc) (n := n) (r := m__law_turns n) xs h6 (fun l hl hm => turns_eq hk n l (by omega) (by omega) fun a m => hf a (hm a m)) xs [] [] none none rfl (by simp; omega)
      have := tn1_body hd' e
      rw [turns_parts n xs z]
      exact this
end Mi
set_option Elab.async false
set_option linter.all false
set_option maxRecDepth 100000
set_option maxHeartbeats 2000000
namespace Mi
open PySem L2
theorem seq_step {s1 s2 : MM Fl} {ρ ρ1 : MSt} (h : s1 ρ = .ok .nx ρ1) : seqS s1 s2 ρ = s2 ρ1 := by rw [seqS_ap, h]; rfl
abbrev Pt := List (Str × Int × Int)
def patT (p : Str × Int × Int) : D := .tuple [.int p.2.1, .int p.2.2]
def kvP (ps : Pt) : List (D × D) := ps.map fun p => (.str p.1, patT p)
def nmP (ps : Pt) : List Str := ps.map (·.1)
def atP : Pt → Str → Int × Int
  | [], _ => (0, 0)
  | p :: ps, x => if p.1 = x then p.2 else atP ps x
def kvI (f : Str → Int) (ns : List Str) : List (D × D) := ns.map fun n => (.str n, .int (f n))
def up1 (f : Str → Int) (n : Str) (v : Int) : Str → Int := fun x => if x = n then v else f x
theorem has_I (f : Str → Int) (x : Str) : ∀ ns : List Str, hasKey (.str x) (kvI f ns) = decide (x ∈ ns)
  | [] => rfl
  | n :: ns => by
    show hasKey (.str x) ((.str n, .int (f n)) :: kvI f ns) = _
    rw [hasKey_cons, has_I f x ns]
    by_cases e : n = x
    · simp [e]
    · have : ¬ x = n := fun y => e y.symm
      simp [e, this]
theorem val_I (f : Str → Int) (x : Str) : ∀ {ns : List Str}, x ∈ ns → valAt (kvI f ns) (.str x) = some (.int (f x))
  | n :: ns, h => by
    show valAt ((.str n, .int (f n)) :: kvI f ns) (.str x) = _
    rw [valAt_cons]
    by_cases z : n = x
    · subst z; simp
    · have := val_I f x ((List.mem_cons.mp h).resolve_left fun y => z y.symm)
      simp [z, this]
theorem put_I (f : Str → Int) (x : Str) (v : Int) {ns : List Str} (h : x ∈ ns) : putD (kvI f ns) (.str x) (.int v) = kvI (up1 f x v) ns := by
  rw [putD_ap, has_I, if_pos (by simpa using h)]
  unfold kvI
  rw [List.map_map]
  refine List.map_congr_left fun n _ => ?_
  show (if D.eqv (.str n) (.str x) = true then (D.str n, D.int v) else (.str n, .int (f n))) = (.str n, .int (up1 f x v n))
  unfold up1
  by_cases y : n = x <;> simp [y]
theorem val_P (x : Str) : ∀ {ps : Pt}, x ∈ nmP ps → valAt (kvP ps) (.str x) = some (.tuple [.int (atP ps x).1, .int (atP ps x).2])
  | p :: ps, h => by
    show valAt ((.str p.1, patT p) :: kvP ps) (.str x) = _
    rw [valAt_cons]
    by_cases z : p.1 = x
    · subst z; simp [atP, patT]
    · have := val_P x (ps := ps) ((List.mem_cons.mp h).resolve_left fun y => z y.symm)
      simp [z, this, atP]
theorem keys_P (ps : Pt) : keysD (kvP ps) = (nmP ps).map .str := by unfold keysD kvP nmP; rw [List.map_map, List.map_map]; rfl
structure Bn where
  f : Str → Int
  g : Str → Int
  now : Int
  rows : List (Str × Int × Int)
  mend : List (Int × Str × Int)
def rowB (x : Str) (b n : Int) : D := .tuple [.str x, .int b, .int n]
def mndB (n : Int) (x : Str) (e : Int) : D := .tuple [.int n, .str x, .int e]
def eRw (p : Str × Int × Int) : D := rowB p.1 p.2.1 p.2.2
def eMd (p : Int × Str × Int) : D := mndB p.1 p.2.1 p.2.2
def bstep (ps : Pt) (s : Bn) (p : Str × Int) : Bn :=
  if s.f p.1 + 1 = (atP ps p.1).1 then
    ⟨up1 (up1 s.f p.1 (s.f p.1 + 1)) p.1 0, up1 s.g p.1 (max s.now (s.g p.1) + p.2 + (atP ps p.1).2), max s.now (s.g p.1) + p.2, s.rows ++ [(p.1, max s.now (s.g p.1), max s.now (s.g p.1) + p.2)], s.mend ++ [(max s.now (s.g p.1) + p.2, p.1, max s.now (s.g p.1) + p.2 + (atP ps p.1).2)]⟩
  else ⟨up1 s.f p.1 (s.f p.1 + 1), s.g, max s.now (s.g p.1) + p.2, s.rows ++ [(p.1, max s.now (s.g p.1), max s.now (s.g p.1) + p.2)], s.mend⟩
def bench (ps : Pt) (w : List (Str × Int)) : Bn := w.foldl (bstep ps) ⟨fun _ => 0, fun _ => 0, 0, [], []⟩
theorem bench_len (ps : Pt) : ∀ (w : List (Str × Int)) (s : Bn), (w.foldl (bstep ps) s).rows.length = s.rows.length + w.length ∧ (w.foldl (bstep ps) s).mend.length ≤ s.mend.length + w.length
  | [], s => ⟨rfl, Nat.le_refl _⟩
  | p :: w, s => by
    obtain ⟨h1, h2⟩ := bench_len ps w (bstep ps s p)
    rw [List.foldl_cons]
    have a : (bstep ps s p).rows.length = s.rows.length + 1 := by unfold bstep; split <;> simp
    have b : (bstep ps s p).mend.length ≤ s.mend.length + 1 := by unfold bstep; split <;> simp
    rw [h1, List.length_cons]
    omega
def stW (ps : Pt) (W : D) (s : Bn) (r7 r8 r9 : Option S) : MSt := [some (.d (.dict (kvP ps))), some (.d W), some (.od (kvI s.f (nmP ps))), some (.od (kvI s.g (nmP ps))), some (.d (.int s.now)), some (.ol (s.rows.map eRw)), some (.ol (s.mend.map eMd)), r7, r8, r9, none]
theorem wk_body {P G U : List (D × D)} {W : D} {x : Str} {b now gx fx us md : Int} {rows mend : List D} {r9 : Option S} {U1 : List (D × D)} (hg : valAt G (.str x) = some (.int gx)) (hu : valAt U (.str x) = some (.int fx)) (hp : valAt P (.str x) = some (.tuple [.int us, .int md])) (p1 : putD U (.str x) (.int (fx + 1)) = U1) (hu1 : valAt U1 (.str x) = some (.int (fx + 1)))
    (p2 : ∃ U2, putD U1 (.str x) (.int 0) = U2) (p3 : ∃ G2, putD G (.str x) (.int (max now gx + b + md)) = G2 ∧ valAt G2 (.str x) = some (.int (max now gx + b + md))) (hr : rows.length < 16777216) (hm : mend.length < 16777216) (lu : U.length < 16777216) (lu1 : U1.length < 16777216) (lg : G.length < 16777216) :
    b_worked_1 [some (.d (.dict P)), some (.d W), some (.od U), some (.od G), some (.d (.int now)), some (.ol rows), some (.ol mend), some (.d (.str x)), some (.d (.int b)), r9, none] = if fx + 1 = us then
      .ok .nx [some (.d (.dict P)), some (.d W), some (.od (putD U1 (.str x) (.int 0))), some (.od (putD G (.str x) (.int (max now gx + b + md)))), some (.d (.int (max now gx + b))), some (.ol (rows ++ [rowB x (max now gx) (max now gx + b)])), some (.ol (mend ++ [mndB (max now gx + b) x (max now gx + b + md)])), some (.d (.str x)), some (.d (.int b)), some (.d (.int (max now gx))), none]
    else .ok .nx [some (.d (.dict P)), some (.d W), some (.od U1), some (.od G), some (.d (.int (max now gx + b))), some (.ol (rows ++ [rowB x (max now gx) (max now gx + b)])), some (.ol mend), some (.d (.str x)), some (.d (.int b)), some (.d (.int (max now gx))), none] := by
  obtain ⟨U2, p2⟩ := p2
  obtain ⟨G2, p3, p4⟩ := p3
  have k : keyOf (.str x) = some (.inr x) := rfl
  by_cases z : fx + 1 = us
  · rw [if_pos z, p2, p3]
    subst z
    simp [b_worked_1, put2S, put2K, put1, hg, hu, hp, p1, hu1, p2, p3, p4, hr, hm, lu, lu1, lg, -putD_ap, rowB, mndB, eqOk_int]
  · rw [if_neg z]
    simp [b_worked_1, put2S, put2K, put1, hg, hu, hp, p1, hu1, p2, p3, p4, hr, hm, lu, lu1, lg, -putD_ap, rowB, mndB, eqOk_int, z]
end Mi
set_option Elab.async false
set_option linter.all false
set_option maxRecDepth 100000
set_option maxHeartbeats 2000000
namespace Mi
open PySem L2
theorem kvI_len (f : Str → Int) (ns : List Str) : (kvI f ns).length = ns.length := by unfold kvI; rw [List.length_map]
theorem wk_step {ps : Pt} {W : D} {s : Bn} {p : Str × Int} {r9 : Option S} (hx : p.1 ∈ nmP ps) (hn : (nmP ps).length < 1000) (hr : s.rows.length < 1000) (hm : s.mend.length < 1000) :
    ∃ r9', b_worked_1 (stW ps W s (some (.d (.str p.1))) (some (.d (.int p.2))) r9) = .ok .nx (stW ps W (bstep ps s p) (some (.d (.str p.1))) (some (.d (.int p.2))) r9') := by
  refine ⟨some (.d (.int (max s.now (s.g p.1)))), ?_⟩
  have e := wk_body (P := kvP ps) (G := kvI s.g (nmP ps)) (U := kvI s.f (nmP ps)) (W := W) (x := p.1) (b := p.2) (now := s.now) (gx := s.g p.1) (fx := s.f p.1) (us := (atP ps p.1).1) (md := (atP ps p.1).2) (rows := s.rows.map eRw) (mend := s.mend.map eMd) (r9 := r9) (U1 := kvI (up1 s.f p.1 (s.f p.1 + 1)) (nmP ps)) (val_I _ _ hx) (val_I _ _ hx) (val_P _ hx) (put_I _ _ _ hx) (by rw [val_I _ _ hx]; unfold up1; rw [if_pos rfl])
    ⟨_, rfl⟩ ⟨_, rfl, by rw [put_I _ _ _ hx, val_I _ _ hx]; unfold up1; rw [if_pos rfl]⟩ (by rw [List.length_map]; omega) (by rw [List.length_map]; omega) (by rw [kvI_len]; omega) (by rw [kvI_len]; omega) (by rw [kvI_len]; omega)
  show b_worked_1 [_, _, _, _, _, _, _, _, _, _, _] = _
  rw [e, put_I _ _ _ hx, put_I _ _ _ hx]
  unfold bstep
  split
  · simp only [stW, List.map_append]; rfl
  · simp only [stW, List.map_append]; rfl
theorem wk_loop {ps : Pt} {W : D} (hn : (nmP ps).length < 1000) : ∀ (w : List (Str × Int)) (s : Bn) (r7 r8 r9 : Option S), (∀ p ∈ w, p.1 ∈ nmP ps) → s.rows.length + w.length < 1000 → s.mend.length + w.length < 1000 →
    ∃ r7' r8' r9', forD (setT [7, 8]) b_worked_1 (w.map e2) (stW ps W s r7 r8 r9) = .ok .nx (stW ps W (w.foldl (bstep ps) s) r7' r8' r9')
  | [], s, r7, r8, r9, _, _, _ => ⟨r7, r8, r9, rfl⟩
  | p :: w, s, r7, r8, r9, h, h1, h2 => by
    rw [List.length_cons] at h1 h2
    obtain ⟨b, e1⟩ := wk_step (W := W) (s := s) (r9 := r9) (h p List.mem_cons_self) hn (by omega) (by omega)
    have a : (bstep ps s p).rows.length = s.rows.length + 1 := by unfold bstep; split <;> simp
    have c : (bstep ps s p).mend.length ≤ s.mend.length + 1 := by unfold bstep; split <;> simp
    obtain ⟨a7, a8, a9, e2'⟩ := wk_loop (W := W) hn w (bstep ps s p) (some (.d (.str p.1))) (some (.d (.int p.2))) b (fun q m => h q (List.mem_cons_of_mem _ m)) (by omega) (by omega)
    refine ⟨a7, a8, a9, ?_⟩
    have e0 : setT [7, 8] (e2 p) (stW ps W s r7 r8 r9) = some (stW ps W s (some (.d (.str p.1))) (some (.d (.int p.2))) r9) := rfl
    rw [List.map_cons, forD_step e0 e1]
    exact e2'
theorem sort_M (l : List (Int × Str × Int)) : dSorted [.list (l.map eMd)] = .ok (.list (sortL (l.map eMd))) := by
  have ok : sortOk (l.map eMd) = true := sortOk_of l (fun a b => by
    show PySem.W.alike (.tuple [.int a.1, .str a.2.1, .int a.2.2]) (.tuple [.int b.1, .str b.2.1, .int b.2.2]) = true
    simp [PySem.W.alike, PySem.W.alikeAll]) (by
    unfold sortB
    rw [Bool.or_eq_true]
    refine .inl ?_
    rw [List.all_map]
    exact List.all_eq_true.mpr fun _ _ => rfl) (fun _ => rfl) (fun a => by simp [eMd, mndB, D.depth, D.py, pys, PyData.depth, PyData.depthAll])
  rw [dSorted_list, if_pos ok]
def outB (s : Bn) : D := .tuple [.list (s.rows.map eRw), .list (sortL (s.mend.map eMd))]
/-- a bench at its start -/
def bn0 : Bn := ⟨fun _ => 0, fun _ => 0, 0, [], []⟩
theorem worked_eq {ps : Pt} {w : List (Str × Int)} (nd : (nmP ps).Nodup) (hn : (nmP ps).length < 1000) (h : ∀ p ∈ w, p.1 ∈ nmP ps) (hl : w.length < 500) : m_worked [.dict (kvP ps), lstE e2 w] = .ok (outB (bench ps w)) := by
  have it : iterA (var 0) [some (.d (.dict (kvP ps))), some (.d (lstE e2 w)), none, none, none, none, none, none, none, none, none] = .ok ((nmP ps).map .str) [some (.d (.dict (kvP ps))), some (.d (lstE e2 w)), none, none, none, none, none, none, none, none, none] := by
    have e := keys_P ps
    generalize kvP ps = K at *
    simp [e]
  have c1 := compO_mapT (os := [7]) (gt := setD 7) (ek := c_worked_1) (ev := c_worked_2) (enc := fun x : Str => D.str x) (kf := fun x => x) (vf := fun x => D.int 0) (ρ := [some (.d (.dict (kvP ps))), some (.d (lstE e2 w)), none, none, none, none, none, none, none, none, none]) (l := nmP ps) (by omega) (by rw [List.map_id']; exact nd) (by simp) fun x m => ⟨[some (.d (.dict (kvP ps))), some (.d (lstE e2 w)), none, none, none, none, none, some (.d (.str x)), none, none, none], rfl, by simp, rfl, rfl⟩
  have c2 := compO_mapT (os := [7]) (gt := setD 7) (ek := c_worked_3) (ev := c_worked_4) (enc := fun x : Str => D.str x) (kf := fun x => x) (vf := fun x => D.int 0) (ρ := [some (.d (.dict (kvP ps))), some (.d (lstE e2 w)), none, none, none, none, none, none, none, none, none]) (l := nmP ps) (by omega) (by rw [List.map_id']; exact nd) (by simp) fun x m => ⟨[some (.d (.dict (kvP ps))), some (.d (lstE e2 w)), none, none, none, none, none, some (.d (.str x)), none, none, none], rfl, by simp, rfl, rfl⟩
  have ek : ((nmP ps).map fun a => ((D.str a, D.int 0) : D × D)) = kvI (fun _ => 0) (nmP ps) := rfl
  rw [ek] at c1 c2
  have d1 : (MM.bind (iterA (var 0)) (compO [7] (setD 7) (MM.pure true) c_worked_1 c_worked_2)) [some (.d (.dict (kvP ps))), some (.d (lstE e2 w)), none, none, none, none, none, none, none, none, none] = .ok (.od (kvI (fun _ => 0) (nmP ps))) [some (.d (.dict (kvP ps))), some (.d (lstE e2 w)), none, none, none, none, none, none, none, none, none] := by
    rw [bind_ap, it, Out.bind_ok, c1]
  have d2 : (MM.bind (iterA (var 0)) (compO [7] (setD 7) (MM.pure true) c_worked_3 c_worked_4)) [some (.d (.dict (kvP ps))), some (.d (lstE e2 w)), none, none, none, none, none, none, none, none, none] = .ok (.od (kvI (fun _ => 0) (nmP ps))) [some (.d (.dict (kvP ps))), some (.d (lstE e2 w)), none, none, none, none, none, none, none, none, none] := by
    rw [bind_ap, it, Out.bind_ok, c2]
  have s1 : (parL [2, 3, 4] (consS (MM.bind (iterA (var 0)) (compO [7] (setD 7) (MM.pure true) c_worked_1 c_worked_2)) (consS (MM.bind (iterA (var 0)) (compO [7] (setD 7) (MM.pure true) c_worked_3 c_worked_4)) (consD (MM.pure (.int 0)) (MM.pure []))))) [some (.d (.dict (kvP ps))), some (.d (lstE e2 w)), none, none, none, none, none, none, none, none, none] = .ok .nx [some (.d (.dict (kvP ps))), some (.d (lstE e2 w)), some (.od (kvI (fun _ => 0) (nmP ps))), some (.od (kvI (fun _ => 0) (nmP ps))), some (.d (.int 0)), none, none, none, none, none, none] := by
    generalize (MM.bind (iterA (var 0)) (compO [7] (setD 7) (MM.pure true) c_worked_1 c_worked_2)) = M at *
    generalize (MM.bind (iterA (var 0)) (compO [7] (setD 7) (MM.pure true) c_worked_3 c_worked_4)) = N at *
    generalize kvI (fun _ => 0) (nmP ps) = Z at *
    generalize kvP ps = K at *
    generalize lstE e2 w = L at *
    simp [d1, d2]
  have s2 : (parL [5, 6] (consS (MM.pure (.ol [])) (consS (MM.pure (.ol [])) (MM.pure [])))) [some (.d (.dict (kvP ps))), some (.d (lstE e2 w)), some (.od (kvI (fun _ => 0) (nmP ps))), some (.od (kvI (fun _ => 0) (nmP ps))), some (.d (.int 0)), none, none, none, none, none, none] = .ok .nx (stW ps (lstE e2 w) bn0 none none none) := rfl
  obtain ⟨r7, r8, r9, lp⟩ := wk_loop (ps := ps) (W := lstE e2 w) hn w bn0 none none none h (by show 0 + w.length < 1000; omega) (by show 0 + w.length < 1000; omega)
  have fe : w.foldl (bstep ps) bn0 = bench ps w := rfl
  rw [fe] at lp
  have s3 : (MM.bind (iterA (var 1)) (forD (setT [7, 8]) b_worked_1)) (stW ps (lstE e2 w) bn0 none none none) = .ok .nx (stW ps (lstE e2 w) (bench ps w) r7 r8 r9) := by
    have ei : iterA (var 1) (stW ps (lstE e2 w) bn0 none none none) = .ok (w.map e2) (stW ps (lstE e2 w) bn0 none none none) := rfl
    rw [bind_ap, ei, Out.bind_ok, lp]
  have so := sort_M (bench ps w).mend
  show endF (b_worked [some (.d (.dict (kvP ps))), some (.d (lstE e2 w)), none, none, none, none, none, none, none, none, none]) = _
  unfold b_worked
  rw [seq_step s1, seq_step s2, seq_step s3]
  unfold stW outB
  generalize sortL ((bench ps w).mend.map eMd) = SM at *
  generalize (bench ps w).mend.map eMd = ME at *
  generalize (bench ps w).rows.map eRw = RO at *
  simp [-dSorted_list, so, endF]
end Mi
set_option Elab.async false
set_option linter.all false
set_option maxRecDepth 100000
set_option maxHeartbeats 2000000
namespace Mi
open PySem L2
def whileJ (t : MM Bool) (b : MM Fl) (n : Nat) : Out Fl → Out Fl
  | .ok .nx ρ2 => whileD t b n ρ2
  | .ok .ct ρ2 => whileD t b n ρ2
  | .ok .bk ρ2 => .ok .nx ρ2
  | .ok (.rt d) ρ2 => .ok (.rt d) ρ2
  | .exn y ρ2 => .exn y ρ2
  | .stuck => .stuck
theorem whileD_yes {t : MM Bool} {b : MM Fl} {n : Nat} {ρ ρ1 : MSt} (h : t ρ = .ok true ρ1) : whileD t b (n + 1) ρ = whileJ t b n (b ρ1) := by
  show Out.bind (t ρ) _ = _
  rw [h]
  rfl
theorem whileD_no {t : MM Bool} {b : MM Fl} {n : Nat} {ρ ρ1 : MSt} (h : t ρ = .ok false ρ1) : whileD t b (n + 1) ρ = .ok .nx ρ1 := by
  show Out.bind (t ρ) _ = _
  rw [h]
  rfl
abbrev lbT : MM Bool := (opT dLt (var 5) (callE dLen (consA (var 1) (MM.pure []))))
abbrev lbB : MM Fl := (seqS (asgS (op2 dIx (var 1) (var 5)) (setT [8, 9])) (ifS (opT dGt (oixE 7 (var 8)) (var 4)) (asgS (op2 dAdd (var 4) (MM.pure (.int 1))) (setD 4)) (seqS (appS 2 (MM.bind (consA (var 8) (consA (var 4) (consA (op2 dAdd (var 4) (var 9)) (MM.pure [])))) fun xs => lift (mkT xs))) (seqS (parL [4, 5] (consD (op2 dAdd (var 4) (var 9)) (consD (op2 dAdd (var 5) (MM.pure (.int 1))) (MM.pure [])))) (seqS (putS 6 (op2 dAdd (oixE 6 (var 8)) (MM.pure (.int 1))) (var 8)) (ifS (opT dEq (oixE 6 (var 8)) (op2 dIx (op2 dIx (var 0) (var 8)) (MM.pure (.int 0)))) (seqS (put2S 6 7 (var 8) (var 8) (consA (MM.pure (.int 0)) (consA (op2 dAdd (var 4) (op2 dIx (op2 dIx (var 0) (var 8)) (MM.pure (.int 1)))) (MM.pure [])))) (appS 3 (MM.bind (consA (var 4) (consA (var 8) (consA (oixE 7 (var 8)) (MM.pure [])))) fun xs => lift (mkT xs)))) (MM.pure .nx)))))))
def stB (ps : Pt) (W : D) (s : Bn) (k : Int) (r8 r9 : Option S) : MSt := [some (.d (.dict (kvP ps))), some (.d W), some (.ol (s.rows.map eRw)), some (.ol (s.mend.map eMd)), some (.d (.int s.now)), some (.d (.int k)), some (.od (kvI s.f (nmP ps))), some (.od (kvI s.g (nmP ps))), r8, r9, none]
theorem lb_wait {P G U : List (D × D)} {W : D} {x : Str} {b now gx k : Int} {rows mend : List D} {r8 r9 : Option S} (hw : dIx W (.int k) = .ok (.tuple [.str x, .int b])) (hg : valAt G (.str x) = some (.int gx)) (z : now < gx) :
    lbB [some (.d (.dict P)), some (.d W), some (.ol rows), some (.ol mend), some (.d (.int now)), some (.d (.int k)), some (.od U), some (.od G), r8, r9, none] = .ok .nx [some (.d (.dict P)), some (.d W), some (.ol rows), some (.ol mend), some (.d (.int (now + 1))), some (.d (.int k)), some (.od U), some (.od G), some (.d (.str x)), some (.d (.int b)), none] := by
  have kx : keyOf (.str x) = some (.inr x) := rfl
  simp [lbB, hw, hg, z]
theorem lb_go {P G U : List (D × D)} {W : D} {x : Str} {b now gx fx us md k : Int} {rows mend : List D} {r8 r9 : Option S} {U1 : List (D × D)} (hw : dIx W (.int k) = .ok (.tuple [.str x, .int b])) (hg : valAt G (.str x) = some (.int gx)) (z0 : ¬ now < gx) (hu : valAt U (.str x) = some (.int fx)) (hp : valAt P (.str x) = some (.tuple [.int us, .int md])) (p1 : putD U (.str x) (.int (fx + 1)) = U1) (hu1 : valAt U1 (.str x) = some (.int (fx + 1)))
    (p2 : ∃ U2, putD U1 (.str x) (.int 0) = U2) (p3 : ∃ G2, putD G (.str x) (.int (now + b + md)) = G2 ∧ valAt G2 (.str x) = some (.int (now + b + md))) (hr : rows.length < 16777216) (hm : mend.length < 16777216) (lu : U.length < 16777216) (lu1 : U1.length < 16777216) (lg : G.length < 16777216) :
    lbB [some (.d (.dict P)), some (.d W), some (.ol rows), some (.ol mend), some (.d (.int now)), some (.d (.int k)), some (.od U), some (.od G), r8, r9, none] = if fx + 1 = us then
      .ok .nx [some (.d (.dict P)), some (.d W), some (.ol (rows ++ [rowB x now (now + b)])), some (.ol (mend ++ [mndB (now + b) x (now + b + md)])), some (.d (.int (now + b))), some (.d (.int (k + 1))), some (.od (putD U1 (.str x) (.int 0))), some (.od (putD G (.str x) (.int (now + b + md)))), some (.d (.str x)), some (.d (.int b)), none]
    else .ok .nx [some (.d (.dict P)), some (.d W), some (.ol (rows ++ [rowB x now (now + b)])), some (.ol mend), some (.d (.int (now + b))), some (.d (.int (k + 1))), some (.od U1), some (.od G), some (.d (.str x)), some (.d (.int b)), none] := by
  obtain ⟨U2, p2⟩ := p2
  obtain ⟨G2, p3, p4⟩ := p3
  by_cases z : fx + 1 = us
  · rw [if_pos z, p2, p3]
    subst z
    simp [lbB, hw, put2S, put2K, put1, hg, z0, hu, hp, p1, hu1, p2, p3, p4, hr, hm, lu, lu1, lg, -putD_ap, rowB, mndB, eqOk_int]
  · rw [if_neg z]
    simp [lbB, hw, put2S, put2K, put1, hg, z0, hu, hp, p1, hu1, p2, p3, p4, hr, hm, lu, lu1, lg, -putD_ap, rowB, mndB, eqOk_int, z]
theorem lb_step {ps : Pt} {W : D} {s : Bn} {p : Str × Int} {k : Int} {r8 r9 : Option S} (hw : dIx W (.int k) = .ok (.tuple [.str p.1, .int p.2])) (hg : s.g p.1 ≤ s.now) (hx : p.1 ∈ nmP ps) (hn : (nmP ps).length < 1000) (hr : s.rows.length < 1000) (hm : s.mend.length < 1000) :
    ∃ r8' r9', lbB (stB ps W s k r8 r9) = .ok .nx (stB ps W (bstep ps s p) (k + 1) r8' r9') := by
  refine ⟨some (.d (.str p.1)), some (.d (.int p.2)), ?_⟩
  have mx : max s.now (s.g p.1) = s.now := by omega
  have e := lb_go (P := kvP ps) (G := kvI s.g (nmP ps)) (U := kvI s.f (nmP ps)) (W := W) (x := p.1) (b := p.2) (now := s.now) (gx := s.g p.1) (fx := s.f p.1) (us := (atP ps p.1).1) (md := (atP ps p.1).2) (k := k) (rows := s.rows.map eRw) (mend := s.mend.map eMd) (r8 := r8) (r9 := r9) (U1 := kvI (up1 s.f p.1 (s.f p.1 + 1)) (nmP ps)) hw (val_I _ _ hx) (by omega) (val_I _ _ hx) (val_P _ hx) (put_I _ _ _ hx) (by rw [val_I _ _ hx]; unfold up1; rw [if_pos rfl])
    ⟨_, rfl⟩ ⟨_, rfl, by rw [put_I _ _ _ hx, val_I _ _ hx]; unfold up1; rw [if_pos rfl]⟩ (by rw [List.length_map]; omega) (by rw [List.length_map]; omega) (by rw [kvI_len]; omega) (by rw [kvI_len]; omega) (by rw [kvI_len]; omega)
  show lbB [_, _, _, _, _, _, _, _, _, _, _] = _
  rw [e, put_I _ _ _ hx, put_I _ _ _ hx]
  unfold bstep
  rw [mx]
  split
  · simp only [stB, List.map_append]; rfl
  · simp only [stB, List.map_append]; rfl
theorem lb_test {ps : Pt} {w : List (Str × Int)} {s : Bn} {k : Nat} {r8 r9 : Option S} : lbT (stB ps (lstE e2 w) s (k : Nat) r8 r9) = .ok (decide (k < w.length)) (stB ps (lstE e2 w) s (k : Nat) r8 r9) := by
  have e : dLen [lstE e2 w] = .ok (.int (w.length : Int)) := by
    show dLen [.list (w.map e2)] = _
    rw [dLen_list, List.length_map]
  generalize lstE e2 w = L at *
  have d : decide ((k : Int) < (w.length : Int)) = decide (k < w.length) := by by_cases z : k < w.length <;> simp [z] <;> omega
  rw [← d]
  generalize (w.length : Int) = N at *
  generalize ((k : Nat) : Int) = K at *
  simp [lbT, stB, e]
theorem lb_at {w : List (Str × Int)} {k : Nat} {p : Str × Int} (h : w[k]? = some p) : dIx (lstE e2 w) (.int (k : Nat)) = .ok (.tuple [.str p.1, .int p.2]) := by
  show dIx (.list (w.map e2)) (.int (k : Nat)) = _
  rw [dIx_list]
  have : atI (w.map e2) (k : Nat) = some (e2 p) := atI_nat (j := k) (by rw [List.getElem?_map, h]; rfl)
  rw [this]; rfl
theorem lb_turn {ps : Pt} {w : List (Str × Int)} {p : Str × Int} {k : Nat} (hp : w[k]? = some p) (hx : p.1 ∈ nmP ps) (hn : (nmP ps).length < 1000) : ∀ (d : Nat) (s : Bn) (n : Nat) (r8 r9 : Option S), (s.g p.1 - s.now).toNat = d → s.rows.length < 1000 → s.mend.length < 1000 →
    ∃ r8' r9', whileD lbT lbB (n + d + 1) (stB ps (lstE e2 w) s (k : Nat) r8 r9) = whileD lbT lbB n (stB ps (lstE e2 w) (bstep ps s p) ((k + 1 : Nat) : Int) r8' r9')
  | 0, s, n, r8, r9, hd, hr, hm => by
    have hk : k < w.length := (List.getElem?_eq_some_iff.mp hp).1
    obtain ⟨a, b, e⟩ := lb_step (k := (k : Nat)) (r8 := r8) (r9 := r9) (lb_at hp) (s := s) (by omega) hx hn hr hm
    refine ⟨a, b, ?_⟩
    have t := lb_test (ps := ps) (w := w) (s := s) (k := k) (r8 := r8) (r9 := r9)
    rw [decide_eq_true hk] at t
    rw [Nat.add_zero, whileD_yes t, e]
    rfl
  | d + 1, s, n, r8, r9, hd, hr, hm => by
    have hk : k < w.length := (List.getElem?_eq_some_iff.mp hp).1
    have t := lb_test (ps := ps) (w := w) (s := s) (k := k) (r8 := r8) (r9 := r9)
    rw [decide_eq_true hk] at t
    have e : lbB (stB ps (lstE e2 w) s (k : Nat) r8 r9) = .ok .nx (stB ps (lstE e2 w) { s with now := s.now + 1 } (k : Nat) (some (.d (.str p.1))) (some (.d (.int p.2)))) := lb_wait (lb_at hp) (val_I _ _ hx) (by omega)
    obtain ⟨a, b, ih⟩ := lb_turn hp hx hn d { s with now := s.now + 1 } n (some (.d (.str p.1))) (some (.d (.int p.2))) (by show (s.g p.1 - (s.now + 1)).toNat = d; omega) hr hm
    refine ⟨a, b, ?_⟩
    have en : n + (d + 1) + 1 = (n + d + 1) + 1 := by omega
    rw [en, whileD_yes t, e]
    show whileD lbT lbB (n + d + 1) _ = _
    rw [ih]
    have : bstep ps { s with now := s.now + 1 } p = bstep ps s p := by
      have e : max (s.now + 1) (s.g p.1) = max s.now (s.g p.1) := by omega
      unfold bstep
      dsimp only
      rw [e]
    rw [this]
theorem lb_loop {ps : Pt} {w : List (Str × Int)} (hn : (nmP ps).length < 1000) (hb : ∀ p ∈ w, p.1 ∈ nmP ps ∧ 0 ≤ p.2 ∧ (atP ps p.1).2 ≤ 12) : ∀ (rest done : List (Str × Int)) (s : Bn) (n : Nat) (r8 r9 : Option S), w = done ++ rest → (∀ x, s.g x ≤ s.now + 12) → 13 * rest.length + 1 ≤ n → s.rows.length + rest.length < 1000 → s.mend.length + rest.length < 1000 →
    ∃ r8' r9', whileD lbT lbB n (stB ps (lstE e2 w) s (done.length : Nat) r8 r9) = .ok .nx (stB ps (lstE e2 w) (rest.foldl (bstep ps) s) (w.length : Nat) r8' r9')
  | [], done, s, n, r8, r9, e, _, hn', _, _ => by
    rw [List.append_nil] at e
    subst e
    obtain ⟨m, rfl⟩ : ∃ m, n = m + 1 := ⟨n - 1, by omega⟩
    have t := lb_test (ps := ps) (w := w) (s := s) (k := w.length) (r8 := r8) (r9 := r9)
    rw [decide_eq_false (by omega)] at t
    exact ⟨r8, r9, by rw [whileD_no t]; rfl⟩
  | p :: rest, done, s, n, r8, r9, e, hg, hn', h1, h2 => by
    rw [List.length_cons] at hn' h1 h2
    have mp : p ∈ w := by rw [e]; exact List.mem_append_right _ List.mem_cons_self
    obtain ⟨b1, b2, b3⟩ := hb p mp
    have hp : w[done.length]? = some p := by rw [e]; simp
    have hd := hg p.1
    obtain ⟨m, hm⟩ : ∃ m, n = m + (s.g p.1 - s.now).toNat + 1 := ⟨n - (s.g p.1 - s.now).toNat - 1, by omega⟩
    obtain ⟨a, b, e1⟩ := lb_turn hp b1 hn _ s m r8 r9 rfl (by omega) (by omega)
    have r1 : (bstep ps s p).rows.length = s.rows.length + 1 := by unfold bstep; split <;> simp
    have r2 : (bstep ps s p).mend.length ≤ s.mend.length + 1 := by unfold bstep; split <;> simp
    have r3 : ∀ x, (bstep ps s p).g x ≤ (bstep ps s p).now + 12 := fun x => by
      have := hg x
      unfold bstep up1
      split
      · dsimp only
        split <;> omega
      · dsimp only
        omega
    obtain ⟨c, d, e2'⟩ := lb_loop hn hb rest (done ++ [p]) (bstep ps s p) m a b (by rw [e]; simp) r3 (by omega) (by omega) (by omega)
    refine ⟨c, d, ?_⟩
    rw [hm, e1]
    rw [List.length_append, List.length_singleton] at e2'
    exact e2'
end Mi
set_option Elab.async false
set_option linter.all false
set_option maxRecDepth 100000
set_option maxHeartbeats 2000000
namespace Mi
open PySem L2
def prB (x : Str) : D := .tuple [.str x, .int 0]
theorem pairs_B : ∀ ns : List Str, toPairs (ns.map prB) = some (kvI (fun _ => 0) ns)
  | [] => rfl
  | x :: ns => by
    rw [List.map_cons]
    show (toPairs (ns.map prB)).map ((D.str x, D.int 0) :: ·) = _
    rw [pairs_B ns]
    rfl
theorem merge_B : ∀ (ns pre : List Str), (pre ++ ns).Nodup → mergeD (kvI (fun _ => 0) pre) (kvI (fun _ => 0) ns) = kvI (fun _ => 0) (pre ++ ns)
  | [], pre, _ => by simp [kvI]
  | x :: ns, pre, nd => by
    have nd' : (pre ++ [x] ++ ns).Nodup := by simpa using nd
    have ih := merge_B ns (pre ++ [x]) nd'
    show mergeD (kvI (fun _ => 0) pre) ((.str x, .int 0) :: kvI (fun _ => 0) ns) = _
    rw [mergeD_cons]
    have hk : hasKey (.str x) (kvI (fun _ => 0) pre) = false := by
      rw [has_I]
      refine decide_eq_false fun m => ?_
      rw [List.nodup_append] at nd
      exact nd.2.2 _ m _ (by simp) rfl
    have e : putD (kvI (fun _ => 0) pre) (.str x) (.int 0) = kvI (fun _ => 0) (pre ++ [x]) := by
      rw [putD_ap, hk]
      unfold kvI
      simp
    rw [e, ih]
    simp
theorem od_B {ns : List Str} (nd : ns.Nodup) : mkOD [.list (ns.map prB)] = .ok (.od (kvI (fun _ => 0) ns)) := by
  unfold mkOD
  simp only [pairs_B]
  show Res.ok (S.od (mergeD (kvI (fun _ => 0) []) (kvI (fun _ => 0) ns))) = _
  rw [merge_B ns [] (by simpa using nd)]
  rfl
theorem law_bench_eq {ps : Pt} {w : List (Str × Int)} (nd : (nmP ps).Nodup) (hn : (nmP ps).length < 1000) (h : ∀ p ∈ w, p.1 ∈ nmP ps ∧ 0 ≤ p.2 ∧ (atP ps p.1).2 ≤ 12) (hl : w.length ≤ 40) : m__law_bench [.dict (kvP ps), lstE e2 w] = .ok (outB (bench ps w)) := by
  have s1 : (parL [2, 3, 4, 5] (consS (MM.pure (.ol [])) (consS (MM.pure (.ol [])) (consD (MM.pure (.int 0)) (consD (MM.pure (.int 0)) (MM.pure [])))))) [some (.d (.dict (kvP ps))), some (.d (lstE e2 w)), none, none, none, none, none, none, none, none, none] = .ok .nx [some (.d (.dict (kvP ps))), some (.d (lstE e2 w)), some (.ol []), some (.ol []), some (.d (.int 0)), some (.d (.int 0)), none, none, none, none, none] := rfl
  have it : iterA (var 0) [some (.d (.dict (kvP ps))), some (.d (lstE e2 w)), some (.ol []), some (.ol []), some (.d (.int 0)), some (.d (.int 0)), none, none, none, none, none] = .ok ((nmP ps).map .str) [some (.d (.dict (kvP ps))), some (.d (lstE e2 w)), some (.ol []), some (.ol []), some (.d (.int 0)), some (.d (.int 0)), none, none, none, none, none] := by
    have e := keys_P ps
    generalize kvP ps = K at *
    simp [e]
  have c1 := compL_mapT (os := [8]) (gt := setD 8) (el := c__law_bench_1) (enc := fun x : Str => D.str x) (f := prB) (l := nmP ps) (ρ := [some (.d (.dict (kvP ps))), some (.d (lstE e2 w)), some (.ol []), some (.ol []), some (.d (.int 0)), some (.d (.int 0)), none, none, none, none, none]) (by omega) (by simp) fun x m => ⟨[some (.d (.dict (kvP ps))), some (.d (lstE e2 w)), some (.ol []), some (.ol []), some (.d (.int 0)), some (.d (.int 0)), none, none, some (.d (.str x)), none, none], rfl, by simp, rfl⟩
  have c2 := compL_mapT (os := [8]) (gt := setD 8) (el := c__law_bench_2) (enc := fun x : Str => D.str x) (f := prB) (l := nmP ps) (ρ := [some (.d (.dict (kvP ps))), some (.d (lstE e2 w)), some (.ol []), some (.ol []), some (.d (.int 0)), some (.d (.int 0)), none, none, none, none, none]) (by omega) (by simp) fun x m => ⟨[some (.d (.dict (kvP ps))), some (.d (lstE e2 w)), some (.ol []), some (.ol []), some (.d (.int 0)), some (.d (.int 0)), none, none, some (.d (.str x)), none, none], rfl, by simp, rfl⟩
  have s2 : (parL [6, 7] (consS (MM.bind (consA (MM.bind (iterA (var 0)) (compL [8] (setD 8) (MM.pure true) c__law_bench_1)) (MM.pure [])) fun ds => lift (mkOD ds)) (consS (MM.bind (consA (MM.bind (iterA (var 0)) (compL [8] (setD 8) (MM.pure true) c__law_bench_2)) (MM.pure [])) fun ds => lift (mkOD ds)) (MM.pure [])))) [some (.d (.dict (kvP ps))), some (.d (lstE e2 w)), some (.ol []), some (.ol []), some (.d (.int 0)), some (.d (.int 0)), none, none, none, none, none] = .ok .nx (stB ps (lstE e2 w) bn0 ((0 : Nat) : Int) none none) := by
    have o := od_B nd
    have d1 : (MM.bind (consA (MM.bind (iterA (var 0)) (compL [8] (setD 8) (MM.pure true) c__law_bench_1)) (MM.pure [])) fun ds => lift (mkOD ds)) [some (.d (.dict (kvP ps))), some (.d (lstE e2 w)), some (.ol []), some (.ol []), some (.d (.int 0)), some (.d (.int 0)), none, none, none, none, none] = .ok (.od (kvI (fun _ => 0) (nmP ps))) [some (.d (.dict (kvP ps))), some (.d (lstE e2 w)), some (.ol []), some (.ol []), some (.d (.int 0)), some (.d (.int 0)), none, none, none, none, none] := by
      have q : (MM.bind (iterA (var 0)) (compL [8] (setD 8) (MM.pure true) c__law_bench_1)) [some (.d (.dict (kvP ps))), some (.d (lstE e2 w)), some (.ol []), some (.ol []), some (.d (.int 0)), some (.d (.int 0)), none, none, none, none, none] = .ok (.list ((nmP ps).map prB)) [some (.d (.dict (kvP ps))), some (.d (lstE e2 w)), some (.ol []), some (.ol []), some (.d (.int 0)), some (.d (.int 0)), none, none, none, none, none] := by
        rw [bind_ap, it, Out.bind_ok, c1]
      generalize (MM.bind (iterA (var 0)) (compL [8] (setD 8) (MM.pure true) c__law_bench_1)) = M at *
      simp [q, o]
    have d2 : (MM.bind (consA (MM.bind (iterA (var 0)) (compL [8] (setD 8) (MM.pure true) c__law_bench_2)) (MM.pure [])) fun ds => lift (mkOD ds)) [some (.d (.dict (kvP ps))), some (.d (lstE e2 w)), some (.ol []), some (.ol []), some (.d (.int 0)), some (.d (.int 0)), none, none, none, none, none] = .ok (.od (kvI (fun _ => 0) (nmP ps))) [some (.d (.dict (kvP ps))), some (.d (lstE e2 w)), some (.ol []), some (.ol []), some (.d (.int 0)), some (.d (.int 0)), none, none, none, none, none] := by
      have q : (MM.bind (iterA (var 0)) (compL [8] (setD 8) (MM.pure true) c__law_bench_2)) [some (.d (.dict (kvP ps))), some (.d (lstE e2 w)), some (.ol []), some (.ol []), some (.d (.int 0)), some (.d (.int 0)), none, none, none, none, none] = .ok (.list ((nmP ps).map prB)) [some (.d (.dict (kvP ps))), some (.d (lstE e2 w)), some (.ol []), some (.ol []), some (.d (.int 0)), some (.d (.int 0)), none, none, none, none, none] := by
        rw [bind_ap, it, Out.bind_ok, c2]
      generalize (MM.bind (iterA (var 0)) (compL [8] (setD 8) (MM.pure true) c__law_bench_2)) = M at *
      simp [q, o]
    show _ = Out.ok Fl.nx [some (.d (.dict (kvP ps))), some (.d (lstE e2 w)), some (.ol []), some (.ol []), some (.d (.int 0)), some (.d (.int 0)), some (.od (kvI (fun _ => 0) (nmP ps))), some (.od (kvI (fun _ => 0) (nmP ps))), none, none, none]
    generalize kvI (fun _ => 0) (nmP ps) = Z at *
    clear it c1 c2
    generalize kvP ps = K at *
    generalize lstE e2 w = L at *
    generalize (MM.bind (consA (MM.bind (iterA (var 0)) (compL [8] (setD 8) (MM.pure true) c__law_bench_1)) (MM.pure [])) fun ds => lift (mkOD ds)) = M1 at *
    generalize (MM.bind (consA (MM.bind (iterA (var 0)) (compL [8] (setD 8) (MM.pure true) c__law_bench_2)) (MM.pure [])) fun ds => lift (mkOD ds)) = M2 at *
    simp [d1, d2]
  obtain ⟨r8, r9, lp⟩ := lb_loop (ps := ps) (w := w) hn h w [] bn0 1000 none none rfl (fun x => by show (0 : Int) ≤ 0 + 12; omega) (by omega) (by show 0 + w.length < 1000; omega) (by show 0 + w.length < 1000; omega)
  have fe : w.foldl (bstep ps) bn0 = bench ps w := rfl
  rw [fe] at lp
  have s3 : (fun ρ => whileD lbT lbB ((fun _ => 1000) ρ) ρ) (stB ps (lstE e2 w) bn0 ((0 : Nat) : Int) none none) = .ok .nx (stB ps (lstE e2 w) (bench ps w) (w.length : Nat) r8 r9) := lp
  have so := sort_M (bench ps w).mend
  show endF (b__law_bench [some (.d (.dict (kvP ps))), some (.d (lstE e2 w)), none, none, none, none, none, none, none, none, none]) = _
  unfold b__law_bench
  rw [seq_step s1, seq_step s2, seq_step s3]
  unfold stB outB
  generalize sortL ((bench ps w).mend.map eMd) = SM at *
  generalize (bench ps w).mend.map eMd = ME at *
  generalize (bench ps w).rows.map eRw = RO at *
  simp [-dSorted_list, so, endF]
end Mi
set_option Elab.async false
set_option linter.all false
set_option maxRecDepth 100000
set_option maxHeartbeats 2000000
namespace Mi
open PySem L2
structure GP (ps : Pt) : Prop where
  l0 : 1 ≤ ps.length
  l1 : ps.length ≤ 6
  nd : (nmP ps).Nodup
  w : ∀ x ∈ nmP ps, isWordB x = true
  b : ∀ p ∈ ps, 1 ≤ p.2.1 ∧ p.2.1 ≤ 20 ∧ 0 ≤ p.2.2 ∧ p.2.2 ≤ 12
structure GWt (ps : Pt) (w : List (Str × Int)) : Prop where
  m : ∀ p ∈ w, p.1 ∈ nmP ps ∧ 1 ≤ p.2 ∧ p.2 ≤ 99
  l : w.length ≤ 20
theorem nm_len (ps : Pt) : (nmP ps).length = ps.length := by unfold nmP; rw [List.length_map]
theorem at_mem : ∀ {ps : Pt} {x : Str}, x ∈ nmP ps → ∃ p ∈ ps, p.1 = x ∧ atP ps x = p.2
  | p :: ps, x, h => by
    by_cases z : p.1 = x
    · exact ⟨p, List.mem_cons_self, z, by unfold atP; rw [if_pos z]⟩
    · obtain ⟨q, m, e1, e2⟩ := at_mem ((List.mem_cons.mp h).resolve_left fun y => z y.symm)
      exact ⟨q, List.mem_cons_of_mem _ m, e1, by unfold atP; rw [if_neg z]; exact e2⟩
theorem GP.at {ps : Pt} (g : GP ps) {x : Str} (h : x ∈ nmP ps) : 1 ≤ (atP ps x).1 ∧ (atP ps x).1 ≤ 20 ∧ 0 ≤ (atP ps x).2 ∧ (atP ps x).2 ≤ 12 := by
  obtain ⟨p, m, _, e⟩ := at_mem h
  rw [e]; exact g.b p m
theorem pattern_ok {u m : Int} (h1 : 1 ≤ u) (h2 : u ≤ 20) (h3 : 0 ≤ m) (h4 : m ≤ 99) : m_is_pattern [.tuple [.int u, .int m]] = .ok (.bool true) := by
  unfold m_is_pattern b_is_pattern
  simp [whole_int, h1, h2, h3, h4, eqOk_int]
theorem has_P (ps : Pt) (x : Str) : hasKey (.str x) (kvP ps) = decide (x ∈ nmP ps) := by
  unfold hasKey kvP
  rw [List.any_map, Bool.eq_iff_iff]
  simp only [List.any_eq_true, Function.comp, eqv_str, decide_eq_true_eq, nmP, List.mem_map]
theorem ix_P {ps : Pt} {x : Str} (h : x ∈ nmP ps) : dIx (.dict (kvP ps)) (.str x) = .ok (.tuple [.int (atP ps x).1, .int (atP ps x).2]) := by
  rw [dIx_dict, keyOf_str, val_P x h]
theorem kvP_len (ps : Pt) : (kvP ps).length = ps.length := by unfold kvP; rw [List.length_map]
theorem nw1 {ps : Pt} (g : GP ps) (W : D) : compL [2] (setD 2) (MM.pure true) c_need_wanted_1 ((nmP ps).map .str) [some (.d (.dict (kvP ps))), some (.d W), none, none, none] = .ok (.list ((nmP ps).map fun _ => .bool true)) [some (.d (.dict (kvP ps))), some (.d W), none, none, none] :=
  compL_mapT (os := [2]) (gt := setD 2) (el := c_need_wanted_1) (enc := fun x : Str => D.str x) (f := fun _ : Str => .bool true) (l := nmP ps) (by rw [nm_len]; have := g.l1; omega) (by simp) fun x m => by
    refine ⟨[some (.d (.dict (kvP ps))), some (.d W), some (.d (.str x)), none, none], rfl, by simp, ?_⟩
    obtain ⟨a, b, c, d⟩ := g.at m
    have h1 := ix_P m
    have h2 := pattern_ok a b c (by omega)
    have h3 := word_str x (len_word (g.w x m))
    rw [g.w x m] at h3
    generalize kvP ps = K at *
    simp [c_need_wanted_1, h1, h2, h3, -dIx_dict]
theorem nw2 {ps : Pt} {w : List (Str × Int)} (g : GP ps) (gw : GWt ps w) (W : D) : compL [3] (setD 3) (MM.pure true) c_need_wanted_2 (w.map e2) [some (.d (.dict (kvP ps))), some (.d W), none, none, none] = .ok (.list (w.map fun _ => .bool true)) [some (.d (.dict (kvP ps))), some (.d W), none, none, none] :=
  compL_mapT (os := [3]) (gt := setD 3) (el := c_need_wanted_2) (enc := e2) (f := fun _ => .bool true) (l := w) (by have := gw.l; omega) (by simp) fun p m => by
    refine ⟨[some (.d (.dict (kvP ps))), some (.d W), none, some (.d (e2 p)), none], rfl, by simp, ?_⟩
    obtain ⟨a, b, c⟩ := gw.m p m
    have wx := g.w _ a
    have t := tuple_row p.1 [.int p.2] 2 (len_word wx)
    have hk : dIn (.str p.1) (.dict (kvP ps)) = .ok (.bool true) := by
      have hk := has_P ps p.1
      rw [decide_eq_true a] at hk
      have : inB0 (.str p.1) (.dict (kvP ps)) = some true := by rw [← hk]; rfl
      rw [dIn_ap, this]
    generalize kvP ps = K at *
    simp [-dIn_ap, c_need_wanted_2, e2, t, whole_int, wx, b, c, hk]
theorem need_ok {ps : Pt} {w : List (Str × Int)} (g : GP ps) (gw : GWt ps w) : m_need_wanted [.dict (kvP ps), lstE e2 w] = .ok .none := by
  have c1 := nw1 g (lstE e2 w)
  have c2 := nw2 g gw (lstE e2 w)
  have it : iterA (var 0) [some (.d (.dict (kvP ps))), some (.d (lstE e2 w)), none, none, none] = .ok ((nmP ps).map .str) [some (.d (.dict (kvP ps))), some (.d (lstE e2 w)), none, none, none] := by
    have e := keys_P ps
    generalize kvP ps = K at *
    simp [e]
  have l1 : ((kvP ps).length : Int) ≤ 6 := by rw [kvP_len]; have := g.l1; omega
  have l2 : 1 ≤ ((kvP ps).length : Int) := by rw [kvP_len]; have := g.l0; omega
  have l3 : ¬ (20 : Int) < w.length := by have := gw.l; omega
  have a1 := dAll_map (fun _ : Str => true) (nmP ps)
  have a2 := dAll_map (fun _ : Str × Int => true) w
  have t1 : (nmP ps).all (fun _ => true) = true := by simp
  have t2 : w.all (fun _ => true) = true := by simp
  rw [t1] at a1
  rw [t2] at a2
  unfold m_need_wanted b_need_wanted lstE at *
  generalize (nmP ps).map (fun _ : Str => D.bool true) = B1 at *
  generalize w.map (fun _ : Str × Int => D.bool true) = B2 at *
  generalize (nmP ps).map (fun x : Str => D.str x) = NS at *
  generalize kvP ps = K at *
  have il : iterA (var 1) [some (.d (.dict K)), some (.d (.list (w.map e2))), none, none, none] = .ok (w.map e2) [some (.d (.dict K)), some (.d (.list (w.map e2))), none, none, none] := rfl
  have ll : (w.map e2).length = w.length := List.length_map ..
  generalize w.map e2 = WL at *
  simp [-compL_ap, -iterA_ap, it, il, c1, c2, l1, l2, ll, l3, a1, a2, -dAll_list]
theorem worked_ok {ps : Pt} {w : List (Str × Int)} (g : GP ps) (gw : GWt ps w) : m_worked [.dict (kvP ps), lstE e2 w] = .ok (outB (bench ps w)) :=
  worked_eq g.nd (by rw [nm_len]; have := g.l1; omega) (fun p m => (gw.m p m).1) (by have := gw.l; omega)
theorem bench_ok {ps : Pt} {w : List (Str × Int)} (g : GP ps) (gw : GWt ps w) : m__law_bench [.dict (kvP ps), lstE e2 w] = .ok (outB (bench ps w)) :=
  law_bench_eq g.nd (by rw [nm_len]; have := g.l1; omega) (fun p m => ⟨(gw.m p m).1, by have := (gw.m p m).2.1; omega, (g.at (gw.m p m).1).2.2.2⟩) (by have := gw.l; omega)
theorem rows_ok {ps : Pt} {w : List (Str × Int)} (g : GP ps) (gw : GWt ps w) : m_bench_rows [.dict (kvP ps), lstE e2 w] = .ok (.list ((bench ps w).rows.map eRw)) := by
  have h1 := need_ok g gw
  have h2 := worked_ok g gw
  unfold outB at h2
  unfold m_bench_rows b_bench_rows
  generalize (bench ps w).rows.map eRw = R at *
  generalize sortL ((bench ps w).mend.map eMd) = S at *
  simp [h1, h2]
theorem mends_ok {ps : Pt} {w : List (Str × Int)} (g : GP ps) (gw : GWt ps w) : m_mends [.dict (kvP ps), lstE e2 w] = .ok (.list (sortL ((bench ps w).mend.map eMd))) := by
  have h1 := need_ok g gw
  have h2 := worked_ok g gw
  unfold outB at h2
  unfold m_mends b_mends
  generalize (bench ps w).rows.map eRw = R at *
  generalize sortL ((bench ps w).mend.map eMd) = S at *
  simp [h1, h2]
structure InB (ps : Pt) (s : Bn) : Prop where
  last : (s.rows = [] ∧ s.now = 0) ∨ ∃ l x b, s.rows = l ++ [(x, b, s.now)]
  rn : ∀ r ∈ s.rows, r.1 ∈ nmP ps
  mn : ∀ r ∈ s.mend, r.2.1 ∈ nmP ps
theorem inB_step {ps : Pt} {s : Bn} {p : Str × Int} (h : InB ps s) (hp : p.1 ∈ nmP ps) : InB ps (bstep ps s p) := by
  have rn : ∀ r ∈ s.rows ++ [(p.1, max s.now (s.g p.1), max s.now (s.g p.1) + p.2)], r.1 ∈ nmP ps := fun r m => by
    rcases List.mem_append.mp m with m | m
    · exact h.rn r m
    · rw [List.mem_singleton] at m; rw [m]; exact hp
  have mn : ∀ r ∈ s.mend ++ [(max s.now (s.g p.1) + p.2, p.1, max s.now (s.g p.1) + p.2 + (atP ps p.1).2)], r.2.1 ∈ nmP ps := fun r m => by
    rcases List.mem_append.mp m with m | m
    · exact h.mn r m
    · rw [List.mem_singleton] at m; rw [m]; exact hp
  unfold bstep
  split
  · exact ⟨.inr ⟨_, _, _, rfl⟩, rn, mn⟩
  · exact ⟨.inr ⟨_, _, _, rfl⟩, rn, h.mn⟩
theorem inB_loop {ps : Pt} : ∀ (w : List (Str × Int)) (s : Bn), InB ps s → (∀ p ∈ w, p.1 ∈ nmP ps) → InB ps (w.foldl (bstep ps) s)
  | [], s, h, _ => h
  | p :: w, s, h, hw => inB_loop w (bstep ps s p) (inB_step h (hw p List.mem_cons_self)) fun q m => hw q (List.mem_cons_of_mem _ m)
theorem inB_bench {ps : Pt} {w : List (Str × Int)} (gw : GWt ps w) : InB ps (bench ps w) :=
  inB_loop w bn0 ⟨.inl ⟨rfl, rfl⟩, fun r m => (by cases m), fun r m => (by cases m)⟩ fun p m => (gw.m p m).1
theorem flt_rw {ps : Pt} (g : GP ps) {r : Str × Int × Int} (h : r.1 ∈ nmP ps) : Flt 1 (eRw r) := flt_e3 (g.w _ h)
theorem flt_md {ps : Pt} (g : GP ps) {r : Int × Str × Int} (h : r.2.1 ∈ nmP ps) : Flt 1 (eMd r) := flt_tuple (by intro x m; simp at m; rcases m with rfl | rfl | rfl; exact flt_int _; exact flt_str (strOk_word (g.w _ h)); exact flt_int _)
theorem flt_rws {ps : Pt} {w : List (Str × Int)} (g : GP ps) (gw : GWt ps w) : Flt 2 (.list ((bench ps w).rows.map eRw)) := flt_list fun d m => by
  obtain ⟨r, mr, rfl⟩ := List.mem_map.mp m
  exact flt_rw g ((inB_bench gw).rn r mr)
theorem flt_mds {ps : Pt} {w : List (Str × Int)} (g : GP ps) (gw : GWt ps w) : Flt 2 (.list (sortL ((bench ps w).mend.map eMd))) := flt_list fun d m => by
  have : d ∈ (bench ps w).mend.map eMd := (List.mergeSort_perm ..).mem_iff.mp m
  obtain ⟨r, mr, rfl⟩ := List.mem_map.mp this
  exact flt_md g ((inB_bench gw).mn r mr)
theorem at_last {l : List D} {x : D} : atI (l ++ [x]) (-1) = some x := by
  unfold atI ixN
  rw [if_neg (by omega), if_pos (by simp; omega)]
  have : (-1 + (((l ++ [x]).length : Nat) : Int)).toNat = l.length := by simp; omega
  simp only [Option.bind_some, this]
  simp
theorem nn_list {xs : List D} {n : Nat} (hn : n ≤ 50) (h : ∀ x ∈ xs, Flt n x) : dNe (.list xs) (.list []) = .ok (.bool (decide (xs ≠ []))) := by
  have f1 : Flt (n + 1) (.list xs) := flt_list h
  rw [dNe_ap, if_pos ⟨f1.ok (by omega), rfl⟩, eqv_list]
  cases xs with
  | nil => rfl
  | cons a b => simp
/-- the last row's end, as both write it -/
theorem last_eval {ps : Pt} {w : List (Str × Int)} (g : GP ps) (gw : GWt ps w) :
    ((bench ps w).rows = [] ∧ (bench ps w).now = 0 ∧ dNe (.list ((bench ps w).rows.map eRw)) (.list []) = .ok (.bool false)) ∨
    (∃ x b, (bench ps w).rows ≠ [] ∧ dNe (.list ((bench ps w).rows.map eRw)) (.list []) = .ok (.bool true) ∧ atI ((bench ps w).rows.map eRw) (-1) = some (.tuple [.str x, .int b, .int (bench ps w).now])) := by
  have h := nn_list (n := 1) (by omega) (xs := (bench ps w).rows.map eRw) fun d m => by
    obtain ⟨r, mr, rfl⟩ := List.mem_map.mp m
    exact flt_rw g ((inB_bench gw).rn r mr)
  rcases (inB_bench gw).last with ⟨e, z⟩ | ⟨l, x, b, e⟩
  · refine .inl ⟨e, z, ?_⟩
    rw [h, e]; rfl
  · refine .inr ⟨x, b, by rw [e]; simp, ?_, ?_⟩
    · rw [h, e]; simp
    · rw [e, List.map_append]
      exact at_last
theorem end_by_ok {ps : Pt} {w : List (Str × Int)} (g : GP ps) (gw : GWt ps w) : m_end_by [.dict (kvP ps), lstE e2 w] = .ok (.int (bench ps w).now) := by
  have h2 := worked_ok g gw
  unfold outB at h2
  unfold m_end_by b_end_by
  rcases last_eval g gw with ⟨_, e2', e3⟩ | ⟨x, b, _, e3, e4⟩
  · rw [e2']
    generalize (bench ps w).rows.map eRw = R at *
    generalize sortL ((bench ps w).mend.map eMd) = S at *
    simp [h2, e3, -dNe_ap]
  · generalize (bench ps w).rows.map eRw = R at *
    generalize sortL ((bench ps w).mend.map eMd) = S at *
    simp [h2, e3, e4, -dNe_ap]
theorem waited_ok {ps : Pt} {w : List (Str × Int)} (g : GP ps) (gw : GWt ps w) : m_waited [.dict (kvP ps), lstE e2 w] = .ok (.int ((bench ps w).now - (w.map (·.2)).sum)) := by
  have h1 := need_ok g gw
  have h2 := end_by_ok g gw
  have hc := compL_mapT (os := [2, 3]) (gt := setT [2, 3]) (el := c_waited_1) (enc := e2) (f := fun p : Str × Int => .int p.2) (l := w) (ρ := [some (.d (.dict (kvP ps))), some (.d (lstE e2 w)), none, none, none]) (by have := gw.l; omega) (by simp) fun p m =>
    ⟨[some (.d (.dict (kvP ps))), some (.d (lstE e2 w)), some (.d (.str p.1)), some (.d (.int p.2)), none], rfl, by simp, rfl⟩
  have hs := dSum_map (fun p : Str × Int => p.2) w
  have il : iterA (var 1) [some (.d (.dict (kvP ps))), some (.d (lstE e2 w)), none, none, none] = .ok (w.map e2) [some (.d (.dict (kvP ps))), some (.d (lstE e2 w)), none, none, none] := rfl
  unfold m_waited b_waited
  generalize (w.map fun p : Str × Int => D.int p.2) = B at *
  generalize w.map e2 = WL at *
  generalize lstE e2 w = L at *
  generalize kvP ps = K at *
  simp [-compL_ap, -iterA_ap, -dSum_list, h1, h2, hc, hs, il]
end Mi
set_option Elab.async false
set_option linter.all false
set_option maxRecDepth 100000
set_option maxHeartbeats 2000000
namespace Mi
open PySem L2
abbrev Mo := Str × Int
def ltP (a b : Mo) : Bool := PySem.W.dataLt (e2 a).py (e2 b).py
def ltL (s t : List Mo) : Bool := PySem.W.dataLt (lstE e2 s).py (lstE e2 t).py
theorem str_tri {u v : Str} (h : u ≠ v) : PySem.W.dataLt (.str u) (.str v) = true ∨ PySem.W.dataLt (.str v) (.str u) = true := by
  rw [PySem.W.dataLt_str, PySem.W.dataLt_str, decide_eq_true_iff, decide_eq_true_iff]
  by_cases a : u.cps.toList < v.cps.toList
  · exact .inl a
  · by_cases b : v.cps.toList < u.cps.toList
    · exact .inr b
    · exact absurd (PySem.W.str_of_cps (List.le_antisymm b a)) h
theorem ltP_eq (a b : Mo) : ltP a b = if a.1 = b.1 then decide (a.2 < b.2) else PySem.W.dataLt (.str a.1) (.str b.1) := by
  have e : ltP a b = (if PyData.eqv (.str a.1) (.str b.1) = true then (if PyData.eqv (.int a.2) (.int b.2) = true then false else PySem.W.dataLt (.int a.2) (.int b.2)) else PySem.W.dataLt (.str a.1) (.str b.1)) := PySem.W.dataLt_pair (show PySem.W.alike (.str a.1) (.str b.1) = true by rw [PySem.W.alike]) (show PySem.W.alike (.int a.2) (.int b.2) = true by rw [PySem.W.alike])
  have e1 : PyData.eqv (.str a.1) (.str b.1) = decide (a.1 = b.1) := eqv_str
  have e3 : PyData.eqv (.int a.2) (.int b.2) = decide (a.2 = b.2) := eqv_int
  rw [e, e1, e3, PySem.W.dataLt_int]
  by_cases h1 : a.1 = b.1
  · simp only [h1, decide_true, if_true]
    by_cases h2 : a.2 = b.2 <;> simp [h2]
  · simp [h1]
theorem ltP_tri {a b : Mo} (h : a ≠ b) : ltP a b = true ∨ ltP b a = true := by
  rw [ltP_eq, ltP_eq]
  by_cases h1 : a.1 = b.1
  · rw [if_pos h1, if_pos h1.symm]
    have : a.2 ≠ b.2 := fun z => h (Prod.ext h1 z)
    simp
    omega
  · rw [if_neg h1, if_neg fun z => h1 z.symm]
    exact str_tri h1
theorem eqv_e2 (a b : Mo) : PyData.eqv (e2 a).py (e2 b).py = decide (a = b) := by
  have : D.eqv (e2 a) (e2 b) = decide (a = b) := by
    unfold e2
    rw [eqv_tuple]
    simp [Prod.ext_iff]
  exact this
theorem alike_e2 (a b : Mo) : PySem.W.alike (e2 a).py (e2 b).py = true := by
  show PySem.W.alike (.tuple [.str a.1, .int a.2]) (.tuple [.str b.1, .int b.2]) = true
  simp [PySem.W.alike, PySem.W.alikeAll]
theorem ltL_cons (a b : Mo) (s t : List Mo) : ltL (a :: s) (b :: t) = if a = b then ltL s t else ltP a b := by
  have e : ltL (a :: s) (b :: t) = PySem.W.dataLt (.list ((e2 a).py :: pys (s.map e2))) (.list ((e2 b).py :: pys (t.map e2))) := rfl
  have e' : ltL s t = PySem.W.dataLt (.list (pys (s.map e2))) (.list (pys (t.map e2))) := rfl
  rw [e, e', PySem.W.dataLt_list, PySem.W.dataLt_cons (alike_e2 a b), eqv_e2, PySem.W.dataLt_list]
  by_cases h : a = b
  · simp [h]
  · simp [h, ltP]
theorem ltL_irr (s : List Mo) : ltL s s = false := PyProof.Rows.lex_irrefl _
theorem ltL_tri : ∀ {s t : List Mo}, s.length = t.length → ltL s t = false → ltL t s = false → s = t
  | [], [], _, _, _ => rfl
  | a :: s, b :: t, hl, h1, h2 => by
    rw [ltL_cons] at h1 h2
    by_cases h : a = b
    · subst h
      rw [if_pos rfl] at h1 h2
      rw [ltL_tri (by simpa using hl) h1 h2]
    · rw [if_neg h] at h1
      rw [if_neg fun z => h z.symm] at h2
      rcases ltP_tri h with z | z
      · rw [z] at h1; cases h1
      · rw [z] at h2; cases h2
theorem parts_mem {n : Nat} : ∀ {rest pre : List Mo} {T : List Mo}, (pre ++ rest).length ≤ n → T ∈ partsF n pre rest → ∃ y u, T = y :: u ∧ y ∈ rest ∧ (y :: u).Perm (pre ++ rest)
  | [], pre, T, _, h => by simp [partsF] at h
  | x :: rest, pre, T, hl, h => by
    rw [partsF, List.mem_append] at h
    rcases h with h | h
    · obtain ⟨u, mu, rfl⟩ := List.mem_map.mp h
      have := (turns_perm n (pre ++ rest) u (by simp at hl ⊢; omega)).mp mu
      exact ⟨x, u, rfl, List.mem_cons_self, (this.cons x).trans List.perm_middle.symm⟩
    · obtain ⟨y, u, e, m, p⟩ := parts_mem (rest := rest) (pre := pre ++ [x]) (by simp at hl ⊢; omega) h
      exact ⟨y, u, e, List.mem_cons_of_mem _ m, by rw [List.append_assoc] at p; exact p⟩
theorem parts_min {n : Nat} (ih : ∀ {S : List Mo} {p : List Mo → Bool} {T T' : List Mo}, S.length < n → S.Pairwise (fun a b => ltP b a = false) → (turnsF n S).find? p = some T → T' ∈ turnsF n S → p T' = true → ltL T' T = false) :
    ∀ {rest pre : List Mo} {p : List Mo → Bool} {T T' : List Mo}, (pre ++ rest).length ≤ n → (pre ++ rest).Pairwise (fun a b => ltP b a = false) → (partsF n pre rest).find? p = some T → T' ∈ partsF n pre rest → p T' = true → ltL T' T = false
  | [], pre, p, T, T', _, _, _, h, _ => by simp [partsF] at h
  | x :: rest, pre, p, T, T', hl, hs, hf, hm, hp => by
    have l1 : (pre ++ rest).length < n := by simp at hl ⊢; omega
    have hs1 : (pre ++ rest).Pairwise (fun a b => ltP b a = false) := hs.sublist (List.Sublist.append_left (List.sublist_cons_self x rest) pre)
    rw [partsF, List.find?_append] at hf
    rw [partsF, List.mem_append] at hm
    cases hz : ((turnsF n (pre ++ rest)).map (x :: ·)).find? p with
    | some T0 =>
      rw [hz] at hf
      cases hf
      rw [List.find?_map] at hz
      obtain ⟨u, hu, rfl⟩ := Option.map_eq_some_iff.mp hz
      have fin : ∀ u', u' ∈ turnsF n (pre ++ rest) → p (x :: u') = true → ltL (x :: u') (x :: u) = false := fun u' mu' hp' => by
        rw [ltL_cons, if_pos rfl]
        exact ih (p := p ∘ (x :: ·)) l1 hs1 hu mu' hp'
      rcases hm with hm | hm
      · obtain ⟨u', mu', rfl⟩ := List.mem_map.mp hm
        exact fin u' mu' hp
      · obtain ⟨y, u', rfl, my, py⟩ := parts_mem (by simp at hl ⊢; omega) hm
        by_cases e : y = x
        · subst e
          have : (y :: u').Perm (y :: (pre ++ rest)) := py.trans (by rw [List.append_assoc]; exact List.perm_middle)
          exact fin u' ((turns_perm n _ u' l1).mpr this.cons_inv) hp
        · rw [ltL_cons, if_neg e]
          exact (List.pairwise_cons.mp (List.pairwise_append.mp hs).2.1).1 y my
    | none =>
      rw [hz] at hf
      rcases hm with hm | hm
      · exact absurd hp (by simpa using List.find?_eq_none.mp hz T' hm)
      · exact parts_min ih (rest := rest) (pre := pre ++ [x]) (by simp at hl ⊢; omega) (by rw [List.append_assoc]; exact hs) hf hm hp
theorem turn_min : ∀ {n : Nat} {S : List Mo} {p : List Mo → Bool} {T T' : List Mo}, S.length < n → S.Pairwise (fun a b => ltP b a = false) → (turnsF n S).find? p = some T → T' ∈ turnsF n S → p T' = true → ltL T' T = false
  | 0, S, p, T, T', h, _, _, _, _ => by omega
  | n + 1, S, p, T, T', h, hs, hf, hm, hp => by
    by_cases z : S = []
    · subst z
      rw [turnsF] at hf hm
      simp at hm
      subst hm
      simp at hf
      obtain ⟨_, rfl⟩ := hf
      exact ltL_irr _
    · rw [turns_parts n S z] at hf hm
      exact parts_min (fun a b c d e => turn_min a b c d e) (by simpa using (by omega : S.length ≤ n)) (by simpa using hs) hf hm hp
def srtM (w : List Mo) : List Mo := w.mergeSort fun a b => leD (e2 a) (e2 b)
theorem srtM_perm (w : List Mo) : (srtM w).Perm w := List.mergeSort_perm ..
theorem srtM_le (w : List Mo) : (srtM w).Pairwise fun a b => ltP b a = false := by
  have := List.pairwise_mergeSort (le := fun a b : Mo => leD (e2 a) (e2 b)) (fun a b c => leD_trans _ _ _) (fun a b => leD_total _ _) w
  refine this.imp fun {a b} h => ?_
  rw [leD_eq] at h
  simpa [ltP] using h
theorem sorted_Mo (w : List Mo) : dSorted [lstE e2 w] = .ok (lstE e2 (srtM w)) := by
  have ok : sortOk (w.map e2) = true := sortOk_of w alike_e2 (by
    unfold sortB
    rw [Bool.or_eq_true]
    refine .inl ?_
    rw [List.all_map]
    exact List.all_eq_true.mpr fun _ _ => rfl) (fun _ => rfl) (fun a => by simp [e2, D.depth, D.py, pys, PyData.depth, PyData.depthAll])
  have e : (srtM w).map e2 = sortL (w.map e2) := List.map_mergeSort fun a _ b _ => rfl
  unfold lstE
  rw [dSorted_list, if_pos ok, e]
theorem turns_same : ∀ n, m_turns_of n = m__law_turns n
  | 0 => rfl
  | n + 1 => by
    show runF 5 1 (b_turns_of (m_turns_of n)) = runF 5 1 (b__law_turns (m__law_turns n))
    rw [turns_same n]
    rfl
def mnL : List Int → Int
  | [] => 0
  | a :: l => l.foldl (fun a b => if b < a then b else a) a
theorem mnL_mem {l : List Int} (h : l ≠ []) : mnL l ∈ l := by
  cases l with
  | nil => exact absurd rfl h
  | cons a l => exact (foldmin l a).1
theorem mnL_le {l : List Int} {x : Int} (h : x ∈ l) : mnL l ≤ x := by
  cases l with
  | nil => cases h
  | cons a l => exact (foldmin l a).2 x h
theorem min_map {l : List Int} (h : l ≠ []) : dMin [.list (l.map .int)] = .ok (.int (mnL l)) := by
  have ti : toInts (l.map fun i : Int => D.int i) = some (l.map fun i => i) := toInts_map (fun i : Int => i) l
  rw [List.map_id'] at ti
  show (match toInts (l.map fun i : Int => D.int i) with | some bs => intOr (minL bs) | none => .stuck) = _
  rw [ti]
  cases l with
  | nil => exact absurd rfl h
  | cons a l => rfl
theorem mnL_same {l m : List Int} (hl : l ≠ []) (h : ∀ x, x ∈ l ↔ x ∈ m) : mnL l = mnL m := by
  have hm : m ≠ [] := fun z => by
    have := (h _).mp (mnL_mem hl)
    rw [z] at this; cases this
  exact Int.le_antisymm (mnL_le ((h _).mpr (mnL_mem hm))) (mnL_le ((h _).mp (mnL_mem hl)))
end Mi
set_option Elab.async false
set_option linter.all false
set_option maxRecDepth 100000
set_option maxHeartbeats 2000000
namespace Mi
open PySem L2
def endT (ps : Pt) (t : List Mo) : Int := (bench ps t).now
theorem GWt.perm {ps : Pt} {w t : List Mo} (g : GWt ps w) (p : t.Perm w) : GWt ps t := ⟨fun q m => g.m q (p.mem_iff.mp m), by rw [p.length_eq]; exact g.l⟩
theorem turns_small {w : List Mo} (h : w.length ≤ 6) : (turnsF 14 w).length < 100000 := by
  have h1 := turns_len 14 w
  have h2 : ∀ m, m ≤ 6 → fac m ≤ 720 := by decide
  have := h2 w.length h
  omega
theorem turns_ok {ps : Pt} {w : List Mo} (g : GP ps) (gw : GWt ps w) (h : w.length ≤ 6) : m__law_turns 14 [lstE e2 w] = .ok (.list ((turnsF 14 w).map (lstE e2))) :=
  turns_eq (k := 1) (by omega) 14 w (by omega) h fun p m => flt_e2 (g.w _ (gw.m p m).1)
theorem turns_ne {w : List Mo} (h : w.length ≤ 6) : turnsF 14 w ≠ [] := fun z => by
  have := (turns_perm 14 w w (by omega)).mpr (List.Perm.refl _)
  rw [z] at this; cases this
def leastB (ps : Pt) (w : List Mo) : Int := mnL ((turnsF 14 w).map (endT ps))
theorem least_ok {ps : Pt} {w : List Mo} (g : GP ps) (gw : GWt ps w) (h : w.length ≤ 6) : m_least_made [.dict (kvP ps), lstE e2 w] = .ok (.int (leastB ps w)) := by
  have ht := turns_ok g gw h
  rw [← turns_same] at ht
  have hc := compL_mapT (os := [2]) (gt := setD 2) (el := c_least_made_1) (enc := lstE e2) (f := fun t : List Mo => .int (endT ps t)) (l := turnsF 14 w) (ρ := [some (.d (.dict (kvP ps))), some (.d (lstE e2 w)), none, none]) (by have := turns_small h; omega) (by simp) fun t m => by
    refine ⟨[some (.d (.dict (kvP ps))), some (.d (lstE e2 w)), some (.d (lstE e2 t)), none], rfl, by simp, ?_⟩
    have he := end_by_ok g (gw.perm ((turns_perm 14 w t (by omega)).mp m))
    generalize lstE e2 t = L at *
    generalize lstE e2 w = M at *
    generalize kvP ps = K at *
    simp [c_least_made_1, he, endT]
  have hm := min_map (l := (turnsF 14 w).map (endT ps)) (by simpa using turns_ne h)
  rw [List.map_map] at hm
  have e : ((D.int ∘ endT ps) : List Mo → D) = fun t => .int (endT ps t) := rfl
  rw [e] at hm
  unfold leastB
  generalize mnL ((turnsF 14 w).map (endT ps)) = N at *
  generalize (turnsF 14 w).map (fun t : List Mo => D.int (endT ps t)) = B at *
  generalize (turnsF 14 w).map (lstE e2) = TL at *
  have il : iterAll (.list TL) = .ok TL := rfl
  unfold m_least_made b_least_made
  generalize lstE e2 w = M at *
  generalize kvP ps = K at *
  simp [-compL_ap, ht, hc, hm]
theorem few_ok {w : List Mo} (h : w.length ≤ 7) : m_need_few [lstE e2 w] = .ok .none := by
  have e : dLen [lstE e2 w] = .ok (.int (w.length : Int)) := by
    show dLen [.list (w.map e2)] = _
    rw [dLen_list, List.length_map]
  have n : ¬ (7 : Int) < w.length := by omega
  unfold m_need_few b_need_few
  generalize lstE e2 w = L at *
  simp [e, n]
theorem best_ok {ps : Pt} {w : List Mo} (g : GP ps) (gw : GWt ps w) (h : w.length ≤ 6) : m_best_made [.dict (kvP ps), lstE e2 w] = .ok (.int (leastB ps w)) := by
  have h1 := need_ok g gw
  have h2 := few_ok (w := w) (by omega)
  have h3 := least_ok g gw h
  unfold m_best_made b_best_made
  generalize lstE e2 w = M at *
  generalize kvP ps = K at *
  simp [h1, h2, h3]
theorem find_filter {α : Type} {p : α → Bool} : ∀ {l : List α} {a : α}, l.find? p = some a → ∃ r, l.filter p = a :: r
  | [], a, h => by simp at h
  | b :: l, a, h => by
    by_cases z : p b = true
    · rw [List.find?_cons_of_pos z] at h
      cases h
      exact ⟨_, List.filter_cons_of_pos z⟩
    · rw [List.find?_cons_of_neg z] at h
      rw [List.filter_cons_of_neg z]
      exact find_filter h
theorem first_ok {ps : Pt} {w T : List Mo} (g : GP ps) (gw : GWt ps w) (h : w.length ≤ 6) (hT : (turnsF 14 (srtM w)).find? (fun t => decide (endT ps t = leastB ps w)) = some T) : m_first_turn [.dict (kvP ps), lstE e2 w] = .ok (lstE e2 T) := by
  have h1 := need_ok g gw
  have h2 := few_ok (w := w) (by omega)
  have h3 := least_ok g gw h
  have h4 := sorted_Mo w
  have hs : (srtM w).length ≤ 6 := by rw [(srtM_perm w).length_eq]; exact h
  have gs := gw.perm (srtM_perm w)
  have ht := turns_ok g gs hs
  rw [← turns_same] at ht
  have hc := compL_filT (os := [3]) (gt := setD 3) (t := opT dEq (callE m_end_by (consA (var 0) (consA (var 3) (MM.pure [])))) (var 2)) (el := c_first_turn_1) (enc := lstE e2) (p := fun t => decide (endT ps t = leastB ps w)) (f := fun t : List Mo => lstE e2 t) (l := turnsF 14 (srtM w)) (ρ := [some (.d (.dict (kvP ps))), some (.d (lstE e2 w)), some (.d (.int (leastB ps w))), none, none]) (by have := turns_small hs; omega) (by simp) fun t m => by
    have he := end_by_ok g (gs.perm ((turns_perm 14 _ t (by omega)).mp m))
    refine ⟨[some (.d (.dict (kvP ps))), some (.d (lstE e2 w)), some (.d (.int (leastB ps w))), some (.d (lstE e2 t)), none], rfl, by simp, ?_, fun _ => rfl⟩
    have hq := eq_ii (endT ps t) (leastB ps w)
    have he' : m_end_by [.dict (kvP ps), lstE e2 t] = .ok (.int (endT ps t)) := he
    generalize endT ps t = E at *
    generalize leastB ps w = B at *
    generalize lstE e2 t = L at *
    generalize lstE e2 w = M at *
    generalize kvP ps = K at *
    simp [he', hq, -dEq_ap]
  obtain ⟨r, hr⟩ := find_filter hT
  rw [hr, List.map_cons] at hc
  unfold m_first_turn b_first_turn
  generalize r.map (fun t : List Mo => lstE e2 t) = R at *
  generalize (turnsF 14 (srtM w)).map (lstE e2) = TL at *
  generalize lstE e2 T = LT at *
  generalize leastB ps w = B at *
  generalize lstE e2 (srtM w) = SM at *
  generalize lstE e2 w = M at *
  generalize kvP ps = K at *
  simp [-compL_ap, -dSorted_list, h1, h2, h3, h4, ht, hc]
end Mi
set_option Elab.async false
set_option linter.all false
set_option maxRecDepth 100000
set_option maxHeartbeats 2000000
namespace Mi
open PySem L2
theorem minF_min : ∀ (xs : List D) (x y : D), y ∈ x :: xs → PySem.W.dataLt y.py (minF x xs).py = false
  | [], x, y, h => by
    rw [List.mem_singleton] at h
    subst h
    exact PyProof.Rows.lex_irrefl _
  | z :: zs, x, y, h => by
    have e : minF x (z :: zs) = minF (if PySem.W.dataLt z.py x.py = true then z else x) zs := rfl
    rw [e]
    by_cases c : PySem.W.dataLt z.py x.py = true
    · rw [if_pos c]
      have ih := minF_min zs z
      rcases List.mem_cons.mp h with rfl | h
      · cases q : PySem.W.dataLt y.py (minF z zs).py with
        | false => rfl
        | true =>
          have t : PySem.W.dataLt z.py (minF z zs).py = true := PyProof.Rows.lex_trans _ _ _ c q
          rw [ih z List.mem_cons_self] at t; cases t
      · exact ih y h
    · rw [if_neg c]
      have ih := minF_min zs x
      rcases List.mem_cons.mp h with rfl | h
      · exact ih y List.mem_cons_self
      · rcases List.mem_cons.mp h with rfl | h
        · cases q : PySem.W.dataLt y.py (minF x zs).py with
          | false => rfl
          | true =>
            have t : PySem.W.dataLt y.py x.py = true ∨ PySem.W.dataLt x.py (minF x zs).py = true := PyProof.Rows.lex_negTrans _ _ _ q
            rcases t with t | t
            · exact absurd t c
            · rw [ih x List.mem_cons_self] at t; cases t
        · exact ih y (List.mem_cons_of_mem _ h)
theorem alike_L : ∀ s t : List Mo, PySem.W.alikeAll (pys (s.map e2)) (pys (t.map e2)) = true
  | [], t => by show PySem.W.alikeAll [] _ = true; simp [PySem.W.alikeAll]
  | a :: s, [] => by show PySem.W.alikeAll (_ :: _) [] = true; simp [PySem.W.alikeAll]
  | a :: s, b :: t => by
    show PySem.W.alikeAll ((e2 a).py :: pys (s.map e2)) ((e2 b).py :: pys (t.map e2)) = true
    rw [PySem.W.alikeAll, alike_e2, alike_L s t]
    rfl
theorem mm_L (l : List (List Mo)) : mmOk (l.map (lstE e2)) = true := by
  have h1 : alikeB (l.map (lstE e2)) = true := by
    unfold alikeB
    rw [List.all_map, List.all_eq_true]
    intro a _
    show ((l.map (lstE e2)).all fun d' => PySem.W.alike (lstE e2 a).py d'.py) = true
    rw [List.all_map, List.all_eq_true]
    intro b _
    show PySem.W.alike (.list (pys (a.map e2))) (.list (pys (b.map e2))) = true
    rw [PySem.W.alike]
    exact alike_L a b
  have n1 : ∀ a : List Mo, noDicts (a.map e2) = true := fun a => by
    induction a with
    | nil => rfl
    | cons x a ih => rw [List.map_cons, noDicts, ih]; rfl
  have h2 : noDicts (l.map (lstE e2)) = true := by
    clear h1
    induction l with
    | nil => rfl
    | cons a l ih =>
      rw [List.map_cons, noDicts, ih]
      show (noDicts (a.map e2) && true) = true
      rw [n1 a]; rfl
  have h3 : (l.map (lstE e2)).all (fun d => !isNone d && decide (d.depth ≤ 60)) = true := by
    rw [List.all_map, List.all_eq_true]
    intro a _
    have dp : (lstE e2 a).depth ≤ 60 := by
      have := depthAll_le (n := 1) (ds := a.map e2) fun d m => by
        obtain ⟨p, _, rfl⟩ := List.mem_map.mp m
        simp [e2, D.depth, D.py, pys, PyData.depth, PyData.depthAll]
      show PyData.depth (.list (pys (a.map e2))) ≤ 60
      rw [PyData.depth]
      omega
    show (!isNone (D.list (a.map e2)) && decide ((lstE e2 a).depth ≤ 60)) = true
    rw [decide_eq_true dp]; rfl
  unfold mmOk
  rw [h1, h2, h3]; rfl
theorem min_first {ps : Pt} {S T : List Mo} {l : Int} (h : S.length ≤ 6) (hs : S.Pairwise fun a b => ltP b a = false) (hT : (turnsF 14 S).find? (fun t => decide (endT ps t = l)) = some T) : dMinG [.list (((turnsF 14 S).filter fun t => decide (endT ps t = l)).map (lstE e2))] = .ok (lstE e2 T) := by
  obtain ⟨r, hr⟩ := find_filter hT
  have mm := mm_L ((turnsF 14 S).filter fun t => decide (endT ps t = l))
  rw [hr, List.map_cons] at mm ⊢
  show (if mmOk (lstE e2 T :: r.map (lstE e2)) = true then Res.ok (minF (lstE e2 T) (r.map (lstE e2))) else .stuck) = _
  rw [if_pos mm]
  have me := minF_mem (r.map (lstE e2)) (lstE e2 T)
  have mi := minF_min (r.map (lstE e2)) (lstE e2 T) (lstE e2 T) List.mem_cons_self
  generalize minF (lstE e2 T) (r.map (lstE e2)) = M at *
  rw [← List.map_cons (f := lstE e2), ← hr] at me
  obtain ⟨T', m', rfl⟩ := List.mem_map.mp me
  obtain ⟨m1, m2⟩ := List.mem_filter.mp m'
  have a : ltL T' T = false := turn_min (by omega) hs hT m1 m2
  have b : ltL T T' = false := mi
  have p1 := (turns_perm 14 S T (by omega)).mp (List.mem_of_find?_eq_some hT)
  have p2 := (turns_perm 14 S T' (by omega)).mp m1
  rw [ltL_tri (p2.length_eq.trans p1.length_eq.symm) a b]
def tryT (ps : Pt) (t : List Mo) : D := .tuple [.int (endT ps t), lstE e2 t]
def stT (ps : Pt) (W : D) (acc : List (List Mo)) (r3 r4 : Option S) : MSt := [some (.d (.dict (kvP ps))), some (.d W), some (.ol (acc.map (tryT ps))), r3, r4, none, none, none, none]
theorem br_step {ps : Pt} {t : List Mo} {W : D} {acc : List (List Mo)} {r4 : Option S} (g : GP ps) (gt : GWt ps t) (hl : acc.length < 100000) :
    b__law_best_turn_right_1 (stT ps W acc (some (.d (lstE e2 t))) r4) = .ok .nx (stT ps W (acc ++ [t]) (some (.d (lstE e2 t))) (some (.d (.list ((bench ps t).rows.map eRw))))) := by
  have hb := bench_ok g gt
  unfold outB at hb
  have hm : (acc ++ [t]).map (tryT ps) = acc.map (tryT ps) ++ [.tuple [.int (bench ps t).now, lstE e2 t]] := by rw [List.map_append]; rfl
  have hle : (acc.map (tryT ps)).length < 16777216 := by rw [List.length_map]; omega
  unfold stT
  rw [hm]
  unfold b__law_best_turn_right_1
  rcases last_eval g gt with ⟨_, e2', e3⟩ | ⟨x, b, _, e3, e4⟩
  · rw [e2']
    generalize acc.map (tryT ps) = AC at *
    generalize (bench ps t).rows.map eRw = R at *
    generalize sortL ((bench ps t).mend.map eMd) = SM at *
    generalize lstE e2 t = L at *
    generalize kvP ps = K at *
    simp [hb, e3, -dNe_ap, hle]
  · generalize acc.map (tryT ps) = AC at *
    generalize (bench ps t).now = N at *
    generalize (bench ps t).rows.map eRw = R at *
    generalize sortL ((bench ps t).mend.map eMd) = SM at *
    generalize lstE e2 t = L at *
    generalize kvP ps = K at *
    simp [hb, e3, e4, -dNe_ap, hle]
def okR (r : Option S) : Prop := r = none ∨ ∃ v, r = some (.d v)
theorem br_loop {ps : Pt} {W : D} (g : GP ps) : ∀ (ts acc : List (List Mo)) (r3 r4 : Option S), okR r3 → (∀ t ∈ ts, GWt ps t) → acc.length + ts.length < 100000 → ∃ r3' r4', okR r3' ∧
    forD (setD 3) b__law_best_turn_right_1 (ts.map (lstE e2)) (stT ps W acc r3 r4) = .ok .nx (stT ps W (acc ++ ts) r3' r4')
  | [], acc, r3, r4, ok, _, _ => ⟨r3, r4, ok, by simp⟩
  | t :: ts, acc, r3, r4, ok, h, hl => by
    rw [List.length_cons] at hl
    have st := br_step (W := W) (acc := acc) (r4 := r4) g (h t List.mem_cons_self) (by omega)
    obtain ⟨a, b, c, ih⟩ := br_loop (W := W) g ts (acc ++ [t]) (some (.d (lstE e2 t))) (some (.d (.list ((bench ps t).rows.map eRw)))) (.inr ⟨_, rfl⟩) (fun u m => h u (List.mem_cons_of_mem _ m)) (by simp; omega)
    refine ⟨a, b, c, ?_⟩
    have e0 : setD 3 (lstE e2 t) (stT ps W acc r3 r4) = some (stT ps W acc (some (.d (lstE e2 t))) r4) := rfl
    rw [List.map_cons, forD_step e0 st, ih, List.append_assoc]
    rfl
theorem least_same {ps : Pt} {w : List Mo} (h : w.length ≤ 6) : mnL ((turnsF 14 (srtM w)).map (endT ps)) = leastB ps w := by
  have hp := srtM_perm w
  have hs : (srtM w).length ≤ 6 := by rw [hp.length_eq]; exact h
  unfold leastB
  refine mnL_same (by simpa using turns_ne hs) fun x => ?_
  have key : ∀ t, t ∈ turnsF 14 (srtM w) ↔ t ∈ turnsF 14 w := fun t => by
    rw [turns_perm 14 _ t (by omega), turns_perm 14 _ t (by omega)]
    exact ⟨fun q => q.trans hp, fun q => q.trans hp.symm⟩
  simp only [List.mem_map, key]
theorem first_ex {ps : Pt} {w : List Mo} (h : w.length ≤ 6) : ∃ T, (turnsF 14 (srtM w)).find? (fun t => decide (endT ps t = leastB ps w)) = some T := by
  have hs : (srtM w).length ≤ 6 := by rw [(srtM_perm w).length_eq]; exact h
  have m := mnL_mem (l := (turnsF 14 (srtM w)).map (endT ps)) (by simpa using turns_ne hs)
  rw [least_same h] at m
  obtain ⟨t, mt, e⟩ := List.mem_map.mp m
  have : ((turnsF 14 (srtM w)).find? (fun t => decide (endT ps t = leastB ps w))).isSome = true := by
    rw [List.find?_isSome]
    exact ⟨t, mt, by simpa using e⟩
  exact Option.isSome_iff_exists.mp this
theorem right_ok {ps : Pt} {w : List Mo} (g : GP ps) (gw : GWt ps w) (h : w.length ≤ 6) : m__law_best_turn_right [.dict (kvP ps), lstE e2 w] = .ok (.bool true) := by
  obtain ⟨T, hT⟩ := first_ex (ps := ps) h
  have hs : (srtM w).length ≤ 6 := by rw [(srtM_perm w).length_eq]; exact h
  have gs := gw.perm (srtM_perm w)
  have mem : ∀ t ∈ turnsF 14 (srtM w), GWt ps t := fun t m => gs.perm ((turns_perm 14 _ t (by omega)).mp m)
  have h4 := sorted_Mo w
  have ht := turns_ok g gs hs
  have hl := turns_small hs
  obtain ⟨r3, r4, ok3, lp⟩ := br_loop (ps := ps) (W := lstE e2 w) g (turnsF 14 (srtM w)) [] none none (.inl rfl) mem (by simpa using hl)
  rw [List.nil_append] at lp
  have hb := best_ok g gw h
  have hf := first_ok g gw h hT
  have hm := min_map (l := (turnsF 14 (srtM w)).map (endT ps)) (by simpa using turns_ne hs)
  rw [least_same h, List.map_map] at hm
  have em : ((D.int ∘ endT ps) : List Mo → D) = fun t => .int (endT ps t) := rfl
  rw [em] at hm
  have hG := min_first (ps := ps) (l := leastB ps w) hs (srtM_le w) hT
  have kp3 : keepd (some r3) = r3 := by rcases ok3 with rfl | ⟨v, rfl⟩ <;> rfl
  have c1 := compL_mapT (os := [6]) (gt := setD 6) (el := c__law_best_turn_right_1) (enc := tryT ps) (f := fun t : List Mo => .int (endT ps t)) (l := turnsF 14 (srtM w)) (ρ := [some (.d (.dict (kvP ps))), some (.d (lstE e2 w)), some (.d (.list ((turnsF 14 (srtM w)).map (tryT ps)))), r3, r4, none, none, none, none]) (by omega) (by simp) fun t m => by
    refine ⟨[some (.d (.dict (kvP ps))), some (.d (lstE e2 w)), some (.d (.list ((turnsF 14 (srtM w)).map (tryT ps)))), r3, r4, none, some (.d (tryT ps t)), none, none], rfl, by simp, ?_⟩
    unfold tryT
    generalize endT ps t = E at *
    generalize lstE e2 t = L at *
    generalize (turnsF 14 (srtM w)).map _ = TT at *
    simp [c__law_best_turn_right_1]
  have c2 := compL_filT (os := [7, 3]) (gt := setT [7, 3]) (t := opT dEq (var 7) (var 5)) (el := c__law_best_turn_right_2) (enc := tryT ps) (p := fun t => decide (endT ps t = leastB ps w)) (f := fun t : List Mo => lstE e2 t) (l := turnsF 14 (srtM w)) (ρ := [some (.d (.dict (kvP ps))), some (.d (lstE e2 w)), some (.d (.list ((turnsF 14 (srtM w)).map (tryT ps)))), r3, r4, some (.d (.int (leastB ps w))), none, none, none]) (by omega) (by
      intro i hi
      simp at hi
      rcases hi with rfl | rfl
      · rfl
      · exact kp3) fun t m => by
    refine ⟨[some (.d (.dict (kvP ps))), some (.d (lstE e2 w)), some (.d (.list ((turnsF 14 (srtM w)).map (tryT ps)))), some (.d (lstE e2 t)), r4, some (.d (.int (leastB ps w))), none, some (.d (.int (endT ps t))), none], rfl, by simp, ?_, fun _ => rfl⟩
    have hq := eq_ii (endT ps t) (leastB ps w)
    generalize endT ps t = E at *
    generalize leastB ps w = B at *
    generalize lstE e2 t = L at *
    generalize (turnsF 14 (srtM w)).map _ = TT at *
    simp [hq, -dEq_ap]
  have q1 := ne_self (d := .int (leastB ps w)) rfl
  have pT := (turns_perm 14 _ T (by omega)).mp (List.mem_of_find?_eq_some hT)
  have fT : Flt 2 (lstE e2 T) := flt_list fun d m => by
    obtain ⟨p, mp, rfl⟩ := List.mem_map.mp m
    exact flt_e2 (g.w _ ((gs.perm pT).m p mp).1)
  have q2 := ne_self (d := lstE e2 T) fT.ok
  have s1 : (newO (MM.pure (.ol [])) 2) [some (.d (.dict (kvP ps))), some (.d (lstE e2 w)), none, none, none, none, none, none, none] = .ok .nx (stT ps (lstE e2 w) [] none none) := rfl
  have s2 : (MM.bind (iterA (callE (m__law_turns 14) (consA (callE dSorted (consA (var 1) (MM.pure []))) (MM.pure [])))) (forD (setD 3) b__law_best_turn_right_1)) (stT ps (lstE e2 w) [] none none) = .ok .nx (stT ps (lstE e2 w) (turnsF 14 (srtM w)) r3 r4) := by
    have it : (iterA (callE (m__law_turns 14) (consA (callE dSorted (consA (var 1) (MM.pure []))) (MM.pure [])))) (stT ps (lstE e2 w) [] none none) = .ok ((turnsF 14 (srtM w)).map (lstE e2)) (stT ps (lstE e2 w) [] none none) := by
      unfold stT
      generalize (turnsF 14 (srtM w)).map (lstE e2) = TL at *
      generalize lstE e2 (srtM w) = SM at *
      generalize lstE e2 w = L at *
      simp [h4, ht, -dSorted_list]
    rw [bind_ap, it, Out.bind_ok, lp]
  have z : frzS 2 (stT ps (lstE e2 w) (turnsF 14 (srtM w)) r3 r4) = [some (.d (.dict (kvP ps))), some (.d (lstE e2 w)), some (.d (.list ((turnsF 14 (srtM w)).map (tryT ps)))), r3, r4, none, none, none, none] := rfl
  show endF (b__law_best_turn_right [some (.d (.dict (kvP ps))), some (.d (lstE e2 w)), none, none, none, none, none, none, none]) = _
  unfold b__law_best_turn_right
  rw [seq_step s1, seq_step s2]
  show endF (seqS _ _ (frzS 2 (stT ps (lstE e2 w) (turnsF 14 (srtM w)) r3 r4))) = _
  rw [z]
  clear z s1 s2 lp ht h4
  generalize (turnsF 14 (srtM w)).map (tryT ps) = TT at *
  generalize (turnsF 14 (srtM w)).map (fun t : List Mo => D.int (endT ps t)) = BB at *
  generalize ((turnsF 14 (srtM w)).filter fun t => decide (endT ps t = leastB ps w)).map (fun t : List Mo => lstE e2 t) = FF at *
  generalize leastB ps w = B at *
  generalize lstE e2 T = LT at *
  generalize lstE e2 w = L at *
  generalize kvP ps = K at *
  simp [-compL_ap, -dNe_ap, c1, c2, hm, hb, hf, hG, q1, q2, endF]
end Mi
set_option Elab.async false
set_option linter.all false
set_option maxRecDepth 100000
set_option maxHeartbeats 2000000
namespace Mi
open PySem L2
theorem ok_app {a b : Str} (h1 : PyData.strOk a = true) (h2 : PyData.strOk b = true) : PyData.strOk (a ++ b) = true := by
  have e : (a ++ b).cps = a.cps ++ b.cps := rfl
  unfold PyData.strOk at *
  rw [e, Array.all_append, h1, h2]
  rfl
theorem ok_str (s : String) : PyData.strOk (Str.ofString s) = true := by
  rw [Str.ofString_eq_toList]
  unfold PyData.strOk
  simp only [List.all_toArray, List.all_map, List.all_eq_true, Function.comp, decide_eq_true_eq]
  intro c _
  have := c.valid
  rcases this with h | ⟨_, h⟩
  · have : c.toNat < 0xd800 := h
    omega
  · exact h
theorem ok_join : ∀ {ts : List Str}, (∀ t ∈ ts, PyData.strOk t = true) → PyData.strOk (Str.join ", " ts) = true
  | [], _ => by decide +kernel
  | [x], h => h x (by simp)
  | x :: y :: r, h => by
    show PyData.strOk (x ++ (", " : Str) ++ Str.join ", " (y :: r)) = true
    exact ok_app (ok_app (h x (by simp)) (by decide +kernel)) (ok_join fun t m => h t (List.mem_cons_of_mem _ m))
theorem ok_from : ∀ {ts : List Str} {k : Nat} {acc : Str}, PyData.strOk acc = true → (∀ t ∈ ts, PyData.strOk t = true) → PyData.strOk (PySem.textFrom k acc ts) = true
  | [], k, acc, h, _ => h
  | t :: ts, k, acc, h, h2 => by
    unfold PySem.textFrom
    refine ok_from (ok_app (ok_app h ?_) (h2 t List.mem_cons_self)) fun u m => h2 u (List.mem_cons_of_mem _ m)
    split <;> decide +kernel
theorem ok_repr {x : Str} (h : PyData.strOk x = true) : PyData.strOk (PySem.reprText x) = true := by
  have hx : ∀ c ∈ x.cps.toList, c < 1114112 := by
    unfold PyData.strOk at h
    simpa [← Array.all_toList] using h
  have hq : PySem.reprQuote x < 1114112 := by
    unfold PySem.reprQuote
    split <;> decide
  have hex : ∀ (c w : Nat), ∀ d ∈ (List.replicate (w - ((Nat.toDigits 16 c).map Char.toNat).length) 48 ++ (Nat.toDigits 16 c).map Char.toNat), d < 1114112 := fun c w d m => by
    rcases List.mem_append.mp m with m | m
    · rw [List.mem_replicate] at m
      omega
    · obtain ⟨ch, _, rfl⟩ := List.mem_map.mp m
      rcases ch.valid with h | ⟨_, h⟩
      · have : ch.toNat < 0xd800 := h
        omega
      · exact h
  have hc : ∀ c ∈ x.cps.toList, ∀ d ∈ PySem.Builtin.Str.reprChar (PySem.reprQuote x) c, d < 1114112 := fun c m d md => by
    have := hx c m
    unfold PySem.Builtin.Str.reprChar at md
    dsimp only at md
    split at md
    · simp at md; rcases md with rfl | rfl <;> omega
    · split at md
      · simp at md; omega
      · split at md
        · simp at md; omega
        · split at md
          · simp at md; omega
          · split at md
            · simp at md; omega
            · split at md
              · rcases List.mem_append.mp md with q | q
                · simp at q; omega
                · exact hex _ _ d q
              · split at md
                · rcases List.mem_append.mp md with q | q
                  · simp at q; omega
                  · exact hex _ _ d q
                · rcases List.mem_append.mp md with q | q
                  · simp at q; omega
                  · exact hex _ _ d q
  have key : ∀ (l : List Nat) (acc : Array Nat), (∀ c ∈ l, ∀ d ∈ PySem.Builtin.Str.reprChar (PySem.reprQuote x) c, d < 1114112) → (∀ d ∈ acc.toList, d < 1114112) → ∀ d ∈ (l.foldl (fun out c => out ++ (PySem.Builtin.Str.reprChar (PySem.reprQuote x) c).toArray) acc).toList, d < 1114112 := fun l => by
    induction l with
    | nil => intro acc _ h; exact h
    | cons c l ih =>
      intro acc h1 h2
      rw [List.foldl_cons]
      refine ih _ (fun b m => h1 b (List.mem_cons_of_mem _ m)) fun d m => ?_
      rw [Array.toList_append] at m
      rcases List.mem_append.mp m with m | m
      · exact h2 d m
      · exact h1 c List.mem_cons_self d (by simpa using m)
  have := key x.cps.toList #[PySem.reprQuote x] hc (by simpa using hq)
  unfold PySem.reprText PyData.strOk
  rw [← Array.all_toList, Array.toList_push, List.all_append]
  rw [← Array.foldl_toList]
  simp only [Bool.and_eq_true, List.all_eq_true, decide_eq_true_eq, List.mem_singleton, forall_eq]
  exact ⟨this, hq⟩
mutual
def smP : PyData → Bool
  | .none => true
  | .bool _ => true
  | .int i => decide (i.natAbs.log2 < 900)
  | .str x => PyData.strOk x
  | .list xs => smPs xs
  | .tuple xs => smPs xs
  | .dict kvs => smKv kvs
def smPs : List PyData → Bool
  | [] => true
  | x :: xs => smP x && smPs xs
def smKv : List (PyData × PyData) → Bool
  | [] => true
  | (k, v) :: r => smP k && smP v && smKv r
end
theorem int_short {i : Int} (h : i.natAbs.log2 < 900) : (PyData.shown (.int i)).length ≤ 1000 := by
  have h1 := PySem.int_text_length_le (a := i) (k := 900) (by decide) h
  have e : (PyData.shown (.int i)).length = (toString i).length := by
    show (Str.ofString (toString i)).length = _
    rw [Str.ofString_eq_toList]
    show ((toString i).toList.map Char.toNat).toArray.size = _
    rw [List.size_toArray, List.length_map]
    rfl
  omega
mutual
theorem sm_facts : ∀ d : PyData, smP d = true → d.showable = true ∧ d.leavesShort 1000 = true ∧ PyData.strOk d.shown = true
  | .none, _ => ⟨by rw [PyData.showable], by rw [PyData.leavesShort], by rw [PyData.shown]; decide +kernel⟩
  | .bool b, _ => ⟨by rw [PyData.showable], by rw [PyData.leavesShort], by rw [PyData.shown]; cases b <;> decide +kernel⟩
  | .int i, h => by
    have h : i.natAbs.log2 < 900 := by simpa [smP] using h
    refine ⟨by rw [PyData.showable]; exact decide_eq_true (by omega), by rw [PyData.leavesShort]; exact decide_eq_true (int_short h), ?_⟩
    rw [PyData.shown]
    exact ok_str _
  | .str x, h => by
    have h : PyData.strOk x = true := by simpa [smP] using h
    refine ⟨by rw [PyData.showable], ?_, by rw [PyData.shown]; exact ok_repr h⟩
    rw [PyData.leavesShort]
    unfold PyData.strOk at h
    rw [← Array.all_toList] at h
    rw [List.all_eq_true] at h ⊢
    intro c m
    have := h c m
    simp at this ⊢
    omega
  | .list xs, h => by
    obtain ⟨a, b, c⟩ := sm_factsA xs (by simpa [smP] using h)
    refine ⟨by rw [PyData.showable]; exact a, by rw [PyData.leavesShort]; exact b, ?_⟩
    rw [PyData.shown]
    exact ok_app (ok_from (by decide +kernel) c) (by decide +kernel)
  | .tuple xs, h => by
    obtain ⟨a, b, c⟩ := sm_factsA xs (by simpa [smP] using h)
    refine ⟨by rw [PyData.showable]; exact a, by rw [PyData.leavesShort]; exact b, ?_⟩
    rw [PyData.shown]
    refine ok_app (ok_app (by decide +kernel) (ok_join c)) ?_
    split <;> decide +kernel
  | .dict kvs, h => by
    obtain ⟨a, b, c⟩ := sm_factsK kvs (by simpa [smP] using h)
    refine ⟨by rw [PyData.showable]; exact a, by rw [PyData.leavesShort]; exact b, ?_⟩
    rw [PyData.shown]
    exact ok_app (ok_app (by decide +kernel) (ok_join c)) (by decide +kernel)
theorem sm_factsA : ∀ xs : List PyData, smPs xs = true → PyData.showableAll xs = true ∧ PyData.leavesShortAll 1000 xs = true ∧ ∀ t ∈ PyData.shownAll xs, PyData.strOk t = true
  | [], _ => ⟨by rw [PyData.showableAll], by rw [PyData.leavesShortAll], fun t m => by rw [PyData.shownAll] at m; cases m⟩
  | x :: xs, h => by
    rw [smPs, Bool.and_eq_true] at h
    obtain ⟨a, b, c⟩ := sm_facts x h.1
    obtain ⟨a2, b2, c2⟩ := sm_factsA xs h.2
    refine ⟨by rw [PyData.showableAll, a, a2]; rfl, by rw [PyData.leavesShortAll, b, b2]; rfl, fun t m => ?_⟩
    rw [PyData.shownAll] at m
    rcases List.mem_cons.mp m with rfl | m
    · exact c
    · exact c2 t m
theorem sm_factsK : ∀ xs : List (PyData × PyData), smKv xs = true → PyData.showableKv xs = true ∧ PyData.leavesShortKv 1000 xs = true ∧ ∀ t ∈ PyData.shownKv xs, PyData.strOk t = true
  | [], _ => ⟨by rw [PyData.showableKv], by rw [PyData.leavesShortKv], fun t m => by rw [PyData.shownKv] at m; cases m⟩
  | (k, v) :: xs, h => by
    rw [smKv, Bool.and_eq_true, Bool.and_eq_true] at h
    obtain ⟨a, b, c⟩ := sm_facts k h.1.1
    obtain ⟨a1, b1, c1⟩ := sm_facts v h.1.2
    obtain ⟨a2, b2, c2⟩ := sm_factsK xs h.2
    refine ⟨by rw [PyData.showableKv, a, a1, a2]; rfl, by rw [PyData.leavesShortKv, b, b1, b2]; rfl, fun t m => ?_⟩
    rw [PyData.shownKv] at m
    rcases List.mem_cons.mp m with rfl | m
    · exact ok_app (ok_app c (by decide +kernel)) c1
    · exact c2 t m
end
/-- what is shown may be shown, and is a text that may be compared -/
theorem sh_of {xs : List D} (pl : plBs xs = true) (sm : smPs (pys xs) = true) (wt : PyData.weightAll (pys xs) ≤ 10000) (dp : PyData.depthAll (pys xs) ≤ 39) : shOk (.list xs) = true ∧ PyData.strOk (D.list xs).py.shown = true := by
  have sm' : smP (D.list xs).py = true := by show smP (.list (pys xs)) = true; rw [smP]; exact sm
  obtain ⟨a, b, c⟩ := sm_facts _ sm'
  refine ⟨?_, c⟩
  unfold shOk
  have p1 : plB (.list xs) = true := by rw [plB]; exact pl
  have p4 : (D.list xs).py.weight ≤ 10000 := by show PyData.weight (.list (pys xs)) ≤ _; rw [PyData.weight]; exact wt
  have p5 : (D.list xs).py.depth ≤ 40 := by show PyData.depth (.list (pys xs)) ≤ _; rw [PyData.depth]; omega
  rw [p1, a, b, decide_eq_true p4, decide_eq_true p5]
  rfl
end Mi
set_option Elab.async false
set_option linter.all false
set_option maxRecDepth 100000
set_option maxHeartbeats 2000000
namespace Mi
open PySem L2
theorem wt_int {i : Int} (h0 : 0 ≤ i) (h : i ≤ 99) : PyData.weight (.int i) ≤ 8 ∧ i.natAbs.log2 < 900 := by
  have := log2_lt_of (n := i.natAbs) (k := 7) (by omega) (by decide)
  rw [PyData.weight]
  refine ⟨?_, by omega⟩
  split <;> omega
theorem wt_str {x : Str} (h : isWordB x = true) : PyData.weight (.str x) ≤ 8 := by
  rw [PyData.weight]
  unfold isWordB at h
  simp only [Bool.and_eq_true, decide_eq_true_eq] at h
  have : x.length = x.cps.size := rfl
  omega
theorem sh_e2 {p : Mo} (hw : isWordB p.1 = true) (h0 : 0 ≤ p.2) (h1 : p.2 ≤ 99) : plB (e2 p) = true ∧ smP (e2 p).py = true ∧ (e2 p).py.weight ≤ 18 ∧ (e2 p).py.depth ≤ 1 := by
  obtain ⟨a, b⟩ := wt_int h0 h1
  have c := wt_str hw
  refine ⟨rfl, ?_, ?_, ?_⟩
  · show smP (.tuple [.str p.1, .int p.2]) = true
    simp [smP, smPs, strOk_word hw, b]
  · show PyData.weight (.tuple [.str p.1, .int p.2]) ≤ 18
    rw [PyData.weight, PyData.weightAll, PyData.weightAll, PyData.weightAll]
    omega
  · show PyData.depth (.tuple [.str p.1, .int p.2]) ≤ 1
    simp [PyData.depth, PyData.depthAll]
theorem sh_w {ps : Pt} (g : GP ps) : ∀ {w : List Mo}, (∀ p ∈ w, p.1 ∈ nmP ps ∧ 1 ≤ p.2 ∧ p.2 ≤ 99) → plBs (w.map e2) = true ∧ smPs (pys (w.map e2)) = true ∧ PyData.weightAll (pys (w.map e2)) ≤ 19 * w.length ∧ PyData.depthAll (pys (w.map e2)) ≤ 1
  | [], _ => ⟨rfl, rfl, by show PyData.weightAll [] ≤ _; rw [PyData.weightAll]; omega, by show PyData.depthAll [] ≤ _; rw [PyData.depthAll]; omega⟩
  | p :: w, h => by
    obtain ⟨m, b0, b1⟩ := h p List.mem_cons_self
    obtain ⟨a, b, c, d⟩ := sh_e2 (p := p) (g.w _ m) (by omega) b1
    obtain ⟨a2, b2, c2, d2⟩ := sh_w g (w := w) fun q m => h q (List.mem_cons_of_mem _ m)
    refine ⟨?_, ?_, ?_, ?_⟩
    · rw [List.map_cons, plBs, a, a2]; rfl
    · show smPs ((e2 p).py :: pys (w.map e2)) = true
      rw [smPs, b, b2]; rfl
    · show PyData.weightAll ((e2 p).py :: pys (w.map e2)) ≤ _
      rw [PyData.weightAll, List.length_cons]
      omega
    · show PyData.depthAll ((e2 p).py :: pys (w.map e2)) ≤ _
      rw [PyData.depthAll]
      omega
theorem sh_p : ∀ {ps : Pt}, (∀ p ∈ ps, isWordB p.1 = true ∧ 1 ≤ p.2.1 ∧ p.2.1 ≤ 20 ∧ 0 ≤ p.2.2 ∧ p.2.2 ≤ 12) → plKV (kvP ps) = true ∧ smKv (pykv (kvP ps)) = true ∧ PyData.weightKv (pykv (kvP ps)) ≤ 28 * ps.length ∧ PyData.depthKv (pykv (kvP ps)) ≤ 1
  | [], _ => ⟨rfl, rfl, by show PyData.weightKv [] ≤ _; rw [PyData.weightKv]; omega, by show PyData.depthKv [] ≤ _; rw [PyData.depthKv]; omega⟩
  | p :: ps, h => by
    obtain ⟨hw, u0, u1, m0, m1⟩ := h p List.mem_cons_self
    obtain ⟨a, b⟩ := wt_int (i := p.2.1) (by omega) (by omega)
    obtain ⟨c, d⟩ := wt_int (i := p.2.2) (by omega) (by omega)
    have e := wt_str hw
    obtain ⟨a2, b2, c2, d2⟩ := sh_p (ps := ps) fun q m => h q (List.mem_cons_of_mem _ m)
    have hv : pykv (kvP (p :: ps)) = (.str p.1, .tuple [.int p.2.1, .int p.2.2]) :: pykv (kvP ps) := rfl
    refine ⟨?_, ?_, ?_, ?_⟩
    · show plKV ((.str p.1, patT p) :: kvP ps) = true
      rw [plKV, a2]; rfl
    · rw [hv, smKv, b2]
      simp [smP, smPs, strOk_word hw, b, d]
    · rw [hv, PyData.weightKv, List.length_cons]
      rw [show PyData.weight (.tuple [.int p.2.1, .int p.2.2]) = PyData.weight (.int p.2.1) + 1 + (PyData.weight (.int p.2.2) + 1 + 0) by rw [PyData.weight, PyData.weightAll, PyData.weightAll, PyData.weightAll]]
      omega
    · rw [hv, PyData.depthKv]
      simp only [PyData.depth, PyData.depthAll]
      omega
theorem show_ok {ps : Pt} {w : List Mo} (g : GP ps) (gw : GWt ps w) : shOk (.list [.dict (kvP ps), lstE e2 w]) = true ∧ PyData.strOk (D.list [.dict (kvP ps), lstE e2 w]).py.shown = true := by
  obtain ⟨a, b, c, d⟩ := sh_w g gw.m
  obtain ⟨a2, b2, c2, d2⟩ := sh_p (ps := ps) fun p m => ⟨g.w _ (List.mem_map.mpr ⟨p, m, rfl⟩), g.b p m⟩
  have hl := gw.l
  have hp := g.l1
  have e : pys [.dict (kvP ps), lstE e2 w] = [.dict (pykv (kvP ps)), .list (pys (w.map e2))] := rfl
  refine sh_of ?_ ?_ ?_ ?_
  · show plBs [.dict (kvP ps), .list (w.map e2)] = true
    rw [plBs, plBs, plBs, plB, plB, a, a2]; rfl
  · rw [e, smPs, smPs, smPs, smP, smP, b, b2]; rfl
  · rw [e, PyData.weightAll, PyData.weightAll, PyData.weightAll, PyData.weight, PyData.weight]
    omega
  · rw [e, PyData.depthAll, PyData.depthAll, PyData.depthAll, PyData.depth, PyData.depth]
    omega
end Mi
set_option Elab.async false
set_option linter.all false
set_option maxRecDepth 100000
set_option maxHeartbeats 2000000
namespace Mi
open PySem L2
def stV (dc r2 r3 r4 r5 r6 r7 r8 r9 r10 r11 r12 r13 r14 : Option S) : MSt := [none, dc, r2, r3, r4, r5, r6, r7, r8, r9, r10, r11, r12, r13, r14, some (.sto true [])]
def stA (x y : Int) (r2 r3 r4 r5 r6 : Option S) : MSt := stV (some (.dc [.int x, .int y])) r2 r3 r4 r5 r6 none none none none none none none none
def nm3 : List Str := ["ann", "bob", "cy"]
theorem nm3_word : ∀ x ∈ nm3, isWordB x = true := by decide +kernel
theorem nm3_nd : nm3.Nodup := by decide +kernel
theorem nm3_rise : nm3.Pairwise fun a b => leD (.str b) (.str a) = false := by decide +kernel
theorem q1_ok {x y : Int} : s_law_1 (roundSt 15 x y) = .ok .nx (stA x y (some (.od [])) none none none none) := by
  simp [s_law_1, roundSt, stA, stV]
theorem put_P {ps : Pt} {x : Str} {u m : Int} (h : x ∉ nmP ps) : putD (kvP ps) (.str x) (.tuple [.int u, .int m]) = kvP (ps ++ [(x, u, m)]) := by
  rw [putD_ap, has_P, decide_eq_false h]
  unfold kvP
  simp [patT]
theorem pat_step {ps : Pt} {n : Str} (hn : n ∉ nmP ps) (hl : ps.length < 100) (x y : Int) : ∃ u m x' y' : Int, 1 ≤ u ∧ u ≤ 4 ∧ 0 ≤ m ∧ m ≤ 11 ∧
    b_law_1 (stA x y (some (.od (kvP ps))) (some (.d (.str n))) none none none) = .ok .nx (stA x' y' (some (.od (kvP (ps ++ [(n, u, m)])))) (some (.d (.str n))) none none none) := by
  obtain ⟨r, x1, y1, a0, a1, h1⟩ := roll_ok x y 4 (by decide) (by decide)
  obtain ⟨m, x2, y2, c0, c1, h2⟩ := roll_ok x1 y1 12 (by decide) (by decide)
  refine ⟨1 + r, m, x2, y2, by omega, by omega, c0, by omega, ?_⟩
  have p := put_P (u := 1 + r) (m := m) hn
  have l : (kvP ps).length < 16777216 := by rw [kvP_len]; omega
  generalize kvP ps = K at *
  unfold b_law_1 stA stV
  simp [h1, h2, p, -putD_ap, l]
theorem pat_loop : ∀ (l : List Str) (ps : Pt) (x y : Int) (r3 : Option S), okR r3 → (nmP ps ++ l).Nodup → ps.length + l.length < 100 → ∃ (qs : Pt) (x' y' : Int) (r3' : Option S), okR r3' ∧ nmP qs = l ∧ (∀ p ∈ qs, 1 ≤ p.2.1 ∧ p.2.1 ≤ 4 ∧ 0 ≤ p.2.2 ∧ p.2.2 ≤ 11) ∧
    forD (setD 3) b_law_1 (l.map .str) (stA x y (some (.od (kvP ps))) r3 none none none) = .ok .nx (stA x' y' (some (.od (kvP (ps ++ qs)))) r3' none none none)
  | [], ps, x, y, r3, ok, _, _ => ⟨[], x, y, r3, ok, rfl, (fun p m => by cases m), by simp⟩
  | n :: l, ps, x, y, r3, ok, nd, hl => by
    simp at hl
    have hn : n ∉ nmP ps := fun m => by
      rw [List.nodup_append] at nd
      exact nd.2.2 n m n List.mem_cons_self rfl
    obtain ⟨u, m, x1, y1, u0, u1, m0, m1, st⟩ := pat_step hn (by omega) x y
    have e : nmP (ps ++ [(n, u, m)]) = nmP ps ++ [n] := by unfold nmP; rw [List.map_append]; rfl
    obtain ⟨qs, x2, y2, r3', ok', h1, h2, ih⟩ := pat_loop l (ps ++ [(n, u, m)]) x1 y1 (some (.d (.str n))) (.inr ⟨_, rfl⟩) (by rw [e, List.append_assoc]; exact nd) (by simp; omega)
    refine ⟨(n, u, m) :: qs, x2, y2, r3', ok', by show n :: nmP qs = _; rw [h1], ?_, ?_⟩
    · intro p mp
      rcases List.mem_cons.mp mp with rfl | mp
      · exact ⟨u0, u1, m0, m1⟩
      · exact h2 p mp
    · rw [List.map_cons, forD_step (by rfl) st, ih, List.append_assoc]
      rfl
theorem q2_body {x y r x1 y1 : Int} {ds : List D} {o : Out Fl} (h1 : m__law_roll [.int x, .int y] [.int 3] = .ok (.int r, [.int x1, .int y1])) (h2 : cutD [.str "ann", .str "bob", .str "cy"] (some r) none = ds) (h3 : forD (setD 3) b_law_1 ds (stA x1 y1 (some (.od [])) none none none none) = o) :
    s_law_2 (stA x y (some (.od [])) none none none none) = o := by
  unfold stA stV at *
  unfold s_law_2
  simp [h1, h2, h3]
theorem allStr_P : ∀ ps : Pt, allStr (kvP ps) = some (nmP ps)
  | [] => rfl
  | p :: ps => by
    show (allStr (kvP ps)).map (p.1 :: ·) = _
    rw [allStr_P ps]; rfl
theorem sorted_P {ps : Pt} (h : (nmP ps).Pairwise fun a b => leD (.str b) (.str a) = false) (hl : ps.length < 64) : dSorted [.dict (kvP ps)] = .ok (.list ((nmP ps).map .str)) := by
  rw [dSorted_dict, allStr_P]
  show (if (nmP ps).length < 64 then Res.ok (D.list (sortL ((nmP ps).map .str))) else .stuck) = _
  rw [if_pos (by rw [nm_len]; exact hl), sort_perm_eq (s := (nmP ps).map .str) (List.Perm.refl _)]
  rw [List.pairwise_map]
  exact h
theorem q3_ok {x y : Int} {K : List (D × D)} {NS : D} {r3 : Option S} (h : dSorted [.dict K] = .ok NS) : s_law_3 (stA x y (some (.d (.dict K))) r3 none none none) = .ok .nx (stA x y (some (.d (.dict K))) r3 (some (.d NS)) (some (.ol [])) none) := by
  unfold stA stV s_law_3
  simp [-dSorted_dict, h]
theorem at_of {w : List Str} {r : Int} (h0 : 0 ≤ r) (h1 : r < w.length) : ∃ x ∈ w, atI (w.map D.str) r = some (D.str x) := by
  obtain ⟨n, rfl⟩ : ∃ m : Nat, r = m := ⟨r.toNat, by omega⟩
  have hn : n < w.length := by omega
  exact ⟨w[n], List.getElem_mem hn, atI_nat (j := n) (by rw [List.getElem?_map, List.getElem?_eq_getElem hn]; rfl)⟩
theorem want_step {ns : List Str} {K : List (D × D)} {w : List Mo} {r3 r6 : Option S} (hn : ns ≠ []) (hs : ns.length < 1000) (hl : w.length < 1000) (x y : Int) : ∃ (n : Str) (b x' y' : Int), n ∈ ns ∧ 1 ≤ b ∧ b ≤ 8 ∧
    b_law_2 (stA x y (some (.d (.dict K))) r3 (some (.d (.list (ns.map .str)))) (some (.ol (w.map e2))) r6) = .ok .nx (stA x' y' (some (.d (.dict K))) r3 (some (.d (.list (ns.map .str)))) (some (.ol ((w ++ [(n, b)]).map e2))) r6) := by
  have l0 : 0 < ns.length := List.length_pos_iff.mpr hn
  obtain ⟨r, x1, y1, a0, a1, h1⟩ := roll_ok x y (ns.length : Nat) (by omega) (by omega)
  obtain ⟨b, x2, y2, c0, c1, h2⟩ := roll_ok x1 y1 8 (by decide) (by decide)
  obtain ⟨n, mn, hat⟩ := at_of a0 a1
  refine ⟨n, 1 + b, x2, y2, mn, by omega, by omega, ?_⟩
  have e : (w ++ [(n, 1 + b)]).map e2 = w.map e2 ++ [.tuple [.str n, .int (1 + b)]] := by rw [List.map_append]; rfl
  have l : (w.map e2).length < 16777216 := by rw [List.length_map]; omega
  have ln : (ns.map D.str).length = ns.length := List.length_map ..
  rw [e]
  unfold b_law_2 stA stV
  generalize w.map e2 = WL at *
  generalize ns.map D.str = NS at *
  rw [← ln] at h1
  simp [h1, h2, hat, l]
theorem want_loop {ns : List Str} {K : List (D × D)} {r3 : Option S} (hn : ns ≠ []) (hs : ns.length < 1000) : ∀ (l : List D) (w : List Mo) (x y : Int) (r6 : Option S), w.length + l.length < 1000 → ∃ (v : List Mo) (x' y' : Int) (r6' : Option S), v.length = l.length ∧ (∀ p ∈ v, p.1 ∈ ns ∧ 1 ≤ p.2 ∧ p.2 ≤ 8) ∧
    forD (setD 6) b_law_2 l (stA x y (some (.d (.dict K))) r3 (some (.d (.list (ns.map .str)))) (some (.ol (w.map e2))) r6) = .ok .nx (stA x' y' (some (.d (.dict K))) r3 (some (.d (.list (ns.map .str)))) (some (.ol ((w ++ v).map e2))) r6')
  | [], w, x, y, r6, _ => ⟨[], x, y, r6, rfl, (fun p m => by cases m), by simp⟩
  | d :: l, w, x, y, r6, hl => by
    simp at hl
    obtain ⟨n, b, x1, y1, mn, b0, b1, st⟩ := want_step (K := K) (w := w) (r3 := r3) (r6 := some (.d d)) hn hs (by omega) x y
    obtain ⟨v, x2, y2, r6', hv, h2, ih⟩ := want_loop (K := K) (r3 := r3) hn hs l (w ++ [(n, b)]) x1 y1 (some (.d d)) (by simp; omega)
    refine ⟨(n, b) :: v, x2, y2, r6', by simp [hv], ?_, ?_⟩
    · intro p mp
      rcases List.mem_cons.mp mp with rfl | mp
      · exact ⟨mn, b0, b1⟩
      · exact h2 p mp
    · rw [forD_step (by rfl) st, ih, List.append_assoc]
      rfl
theorem q4_body {x y n x1 y1 : Int} {ds : List D} {r2 r3 r4 r5 : Option S} {o : Out Fl} (h1 : m__law_roll [.int x, .int y] [.int 14] = .ok (.int n, [.int x1, .int y1])) (h2 : range1 [.int n] = .ok ds) (h3 : forD (setD 6) b_law_2 ds (stA x1 y1 r2 r3 r4 r5 none) = o) :
    s_law_4 (stA x y r2 r3 r4 r5 none) = o := by
  unfold stA stV at *
  unfold s_law_4
  simp [h1, h2, h3]
end Mi
set_option Elab.async false
set_option linter.all false
set_option maxRecDepth 100000
set_option maxHeartbeats 2000000
namespace Mi
open PySem L2
theorem it_P (ps : Pt) (W : D) : iterA (var 0) [some (.d (.dict (kvP ps))), some (.d W), none, none, none] = .ok ((nmP ps).map .str) [some (.d (.dict (kvP ps))), some (.d W), none, none, none] := by
  have e := keys_P ps
  generalize kvP ps = K at *
  simp [e]
theorem all_P (ps : Pt) : dAll [.list ((nmP ps).map fun _ => .bool true)] = .ok (.bool true) := by
  have a1 := dAll_map (fun _ : Str => true) (nmP ps)
  have t1 : (nmP ps).all (fun _ => true) = true := by simp
  rw [t1] at a1
  exact a1
theorem nbad {ps : Pt} (g : GP ps) {W : D} (h : isLst W = false) (nl : isLoc W = false := by rfl) : m_need_wanted [.dict (kvP ps), W] = .exn ⟨"BadMoulds", none⟩ := by
  have c1 := nw1 g W
  have it := it_P ps W
  have l1 : ((kvP ps).length : Int) ≤ 6 := by rw [kvP_len]; have := g.l1; omega
  have l2 : 1 ≤ ((kvP ps).length : Int) := by rw [kvP_len]; have := g.l0; omega
  have a1 := all_P ps
  unfold m_need_wanted b_need_wanted
  generalize (nmP ps).map (fun _ : Str => D.bool true) = B1 at *
  generalize (nmP ps).map (fun x : Str => D.str x) = NS at *
  generalize kvP ps = K at *
  cases W <;> first | (cases h; done) | (cases nl; done) | simp [-compL_ap, -iterA_ap, it, c1, l1, l2, a1, -dAll_list, isLst]
theorem nbadL {ps : Pt} (g : GP ps) {xs bs : List D} (h : xs.length ≤ 20) (hc : compL [3] (setD 3) (MM.pure true) c_need_wanted_2 xs [some (.d (.dict (kvP ps))), some (.d (.list xs)), none, none, none] = .ok (.list bs) [some (.d (.dict (kvP ps))), some (.d (.list xs)), none, none, none]) (ha : dAll [.list bs] = .ok (.bool false)) : m_need_wanted [.dict (kvP ps), .list xs] = .exn ⟨"BadMoulds", none⟩ := by
  have c1 := nw1 g (.list xs)
  have it := it_P ps (.list xs)
  have l1 : ((kvP ps).length : Int) ≤ 6 := by rw [kvP_len]; have := g.l1; omega
  have l2 : 1 ≤ ((kvP ps).length : Int) := by rw [kvP_len]; have := g.l0; omega
  have l3 : ¬ (20 : Int) < (xs.length : Nat) := by omega
  have a1 := all_P ps
  unfold m_need_wanted b_need_wanted
  generalize (nmP ps).map (fun _ : Str => D.bool true) = B1 at *
  generalize (nmP ps).map (fun x : Str => D.str x) = NS at *
  generalize kvP ps = K at *
  have il : iterA (var 1) [some (.d (.dict K)), some (.d (.list xs)), none, none, none] = .ok xs [some (.d (.dict K)), some (.d (.list xs)), none, none, none] := rfl
  simp [-compL_ap, -iterA_ap, it, il, hc, c1, l1, l2, l3, a1, ha, -dAll_list]
theorem nbadN {ps : Pt} (g : GP ps) {xs : List D} (h : 20 < xs.length) : m_need_wanted [.dict (kvP ps), .list xs] = .exn ⟨"BadMoulds", none⟩ := by
  have c1 := nw1 g (.list xs)
  have it := it_P ps (.list xs)
  have l1 : ((kvP ps).length : Int) ≤ 6 := by rw [kvP_len]; have := g.l1; omega
  have l2 : 1 ≤ ((kvP ps).length : Int) := by rw [kvP_len]; have := g.l0; omega
  have l3 : (20 : Int) < (xs.length : Nat) := by omega
  have a1 := all_P ps
  unfold m_need_wanted b_need_wanted
  generalize (nmP ps).map (fun _ : Str => D.bool true) = B1 at *
  generalize (nmP ps).map (fun x : Str => D.str x) = NS at *
  generalize kvP ps = K at *
  simp [-compL_ap, -iterA_ap, it, c1, l1, l2, l3, a1, -dAll_list]
theorem nbad1 {ps : Pt} (g : GP ps) {b : D} (h : c_need_wanted_2 [some (.d (.dict (kvP ps))), some (.d (.list [b])), none, some (.d b), none] = .ok (.bool false) [some (.d (.dict (kvP ps))), some (.d (.list [b])), none, some (.d b), none]) : m_need_wanted [.dict (kvP ps), .list [b]] = .exn ⟨"BadMoulds", none⟩ :=
  nbadL g (by simp) (compL_mapT (os := [3]) (gt := setD 3) (el := c_need_wanted_2) (enc := fun d : D => d) (f := fun _ => .bool false) (l := [b]) (by simp) (by simp) fun d m => by
    rw [List.mem_singleton] at m
    subst m
    exact ⟨_, rfl, by simp, h⟩) rfl
def badW (one : Str) : List D := [.none, .int 5, .tuple [], .list [.none], .list [.tuple [.str "zed", .int 1]], .list [.tuple [.str one, .int 0]], .list [.tuple [.str one, .int 100]], .list [.tuple [.str one]], .list [.list [.str one, .int 1]], .list [.tuple [.str one, .bool true]], .list (List.replicate 21 (.tuple [.str one, .int 1]))]
theorem zed_word : isWordB "zed" = true := by decide +kernel
theorem need_badW {ps : Pt} (g : GP ps) {one : Str} (h1 : one ∈ nmP ps) (hz : ("zed" : Str) ∉ nmP ps) : ∀ b ∈ badW one, m_need_wanted [.dict (kvP ps), b] = .exn ⟨"BadMoulds", none⟩ := by
  have wo := g.w _ h1
  have ho : dIn (.str one) (.dict (kvP ps)) = .ok (.bool true) := by
    have hk := has_P ps one
    rw [decide_eq_true h1] at hk
    have : inB0 (.str one) (.dict (kvP ps)) = some true := by rw [← hk]; rfl
    rw [dIn_ap, this]
  have hzz : dIn (.str "zed") (.dict (kvP ps)) = .ok (.bool false) := by
    have hk := has_P ps "zed"
    rw [decide_eq_false hz] at hk
    have : inB0 (.str "zed") (.dict (kvP ps)) = some false := by rw [← hk]; rfl
    rw [dIn_ap, this]
  have t2 := fun d : D => tuple_row one [d] 2 (len_word wo)
  have t1 := tuple_row one [] 2 (len_word wo)
  have tz := tuple_row "zed" [.int 1] 2 (len_word zed_word)
  intro b m
  simp only [badW, List.mem_cons, List.not_mem_nil, or_false] at m
  rcases m with rfl | rfl | rfl | rfl | rfl | rfl | rfl | rfl | rfl | rfl | rfl
  · exact nbad g rfl
  · exact nbad g rfl
  · exact nbad g rfl
  · refine nbad1 g ?_
    generalize kvP ps = K at *
    rfl
  · refine nbad1 g ?_
    generalize kvP ps = K at *
    simp [c_need_wanted_2, tz, zed_word, hzz, -dIn_ap]
  · refine nbad1 g ?_
    generalize kvP ps = K at *
    simp [c_need_wanted_2, t2, wo, ho, whole_int, -dIn_ap]
  · refine nbad1 g ?_
    generalize kvP ps = K at *
    simp [c_need_wanted_2, t2, wo, ho, whole_int, -dIn_ap]
  · refine nbad1 g ?_
    generalize kvP ps = K at *
    simp [c_need_wanted_2, t1, wo]
  · refine nbad1 g ?_
    generalize kvP ps = K at *
    rfl
  · refine nbad1 g ?_
    generalize kvP ps = K at *
    simp [c_need_wanted_2, t2, wo, ho, whole_bool, -dIn_ap]
  · exact nbadN g (by simp)
theorem rows_bad {ps : Pt} {b : D} (h : m_need_wanted [.dict (kvP ps), b] = .exn ⟨"BadMoulds", none⟩) : m_bench_rows [.dict (kvP ps), b] = .exn ⟨"BadMoulds", none⟩ ∧ m_first_turn [.dict (kvP ps), b] = .exn ⟨"BadMoulds", none⟩ := by
  generalize kvP ps = K at *
  unfold m_bench_rows b_bench_rows m_first_turn b_first_turn
  simp [h]
theorem best_full {ps : Pt} {w : List Mo} (g : GP ps) (gw : GWt ps w) (h : 7 < w.length) : m_best_made [.dict (kvP ps), lstE e2 w] = .exn ⟨"Full", none⟩ := by
  have h1 := need_ok g gw
  have e : dLen [lstE e2 w] = .ok (.int (w.length : Int)) := by
    show dLen [.list (w.map e2)] = _
    rw [dLen_list, List.length_map]
  have n : (7 : Int) < w.length := by omega
  have h2 : m_need_few [lstE e2 w] = .exn ⟨"Full", none⟩ := by
    unfold m_need_few b_need_few
    generalize lstE e2 w = L at *
    simp [e, n]
  unfold m_best_made b_best_made
  generalize lstE e2 w = M at *
  generalize kvP ps = K at *
  simp [h1, h2]
def badL : List D := [.none, .int 5, .dict [], .dict [(.str "Ann", .tuple [.int 1, .int 1])], .dict [(.str "ann", .tuple [.int 0, .int 1])], .dict [(.str "ann", .tuple [.int 21, .int 1])], .dict [(.str "ann", .tuple [.int 1, .int 100])], .dict [(.str "ann", .tuple [.int 1, .int (-1)])], .dict [(.str "ann", .list [.int 1, .int 1])], .dict [(.str "ann", .tuple [.int 1])]]
theorem badL_ok : ∀ b ∈ badL, m_bench_rows [b, .none] = .exn ⟨"BadLots", none⟩ := by
  intro b m
  simp only [badL, List.mem_cons, List.not_mem_nil, or_false] at m
  rcases m with rfl | rfl | rfl | rfl | rfl | rfl | rfl | rfl | rfl | rfl <;> kernel_rfl
end Mi
set_option Elab.async false
set_option linter.all false
set_option maxRecDepth 100000
set_option maxHeartbeats 4000000
namespace Mi
open PySem L2
section
variable {dc r3 r6 : Option S} {P NS W KT : D} {r7 r8 r9 r10 r11 r12 r13 r14 : Option S}
theorem q5_ok {p : List (D × D)} {w : List D} {K : Str} {O : D} (h1 : dShow (.list [.dict p, .list w]) = .ok (.str K)) (h2 : m__law_bench [.dict p, .list w] = .ok O) :
    s_law_5 (stV dc (some (.d (.dict p))) r3 (some (.d NS)) (some (.d (.list w))) r6 none none none none none none none none) = .ok .nx (stV dc (some (.d (.dict p))) r3 (some (.d NS)) (some (.d (.list w))) r6 (some (.d (.str K))) (some (.d O)) none none none none none none) := by
  unfold s_law_5 stV strE
  simp [h1, h2]
theorem q6_no {p : List (D × D)} {w : List D} {O : D} (h : dNe (.list w) (.list []) = .ok (.bool false)) :
    s_law_6 (stV dc (some (.d (.dict p))) r3 (some (.d NS)) (some (.d (.list w))) r6 (some (.d KT)) (some (.d O)) none none none none none none) = .ok .nx (stV dc (some (.d (.dict p))) r3 (some (.d NS)) (some (.d (.list w))) r6 (some (.d KT)) (some (.d O)) (some (.d (.int 0))) none none none none none) := by
  unfold s_law_6 stV
  simp [h, -dNe_ap]
theorem q6_yes {p : List (D × D)} {w R : List D} {M : D} {x : Str} {b n : Int} (h : dNe (.list w) (.list []) = .ok (.bool true)) (h2 : atI R (-1) = some (.tuple [.str x, .int b, .int n])) :
    s_law_6 (stV dc (some (.d (.dict p))) r3 (some (.d NS)) (some (.d (.list w))) r6 (some (.d KT)) (some (.d (.tuple [.list R, M]))) none none none none none none) = .ok .nx (stV dc (some (.d (.dict p))) r3 (some (.d NS)) (some (.d (.list w))) r6 (some (.d KT)) (some (.d (.tuple [.list R, M]))) (some (.d (.int n))) none none none none none) := by
  unfold s_law_6 stV
  simp [h, h2, -dNe_ap]
theorem q7_ok {p : List (D × D)} {w R : List D} {M E : D} (h1 : m_bench_rows [.dict p, .list w] = .ok (.list R)) (h2 : m_mends [.dict p, .list w] = .ok M) (n1 : dNe (.list R) (.list R) = .ok (.bool false)) (n2 : dNe M M = .ok (.bool false)) :
    s_law_7 (stV dc (some (.d (.dict p))) r3 (some (.d NS)) (some (.d (.list w))) r6 (some (.d KT)) (some (.d (.tuple [.list R, M]))) (some (.d E)) none none none none none) = .ok .nx (stV dc (some (.d (.dict p))) r3 (some (.d NS)) (some (.d (.list w))) r6 (some (.d KT)) (some (.d (.tuple [.list R, M]))) (some (.d E)) none none none none none) := by
  unfold s_law_7 stV
  simp [h1, h2, n1, n2, -dNe_ap]
theorem q8_ok {p : List (D × D)} {w B : List D} {O : D} {e s : Int} (h1 : m_waited [.dict p, .list w] = .ok (.int (e - s))) (h2 : compL [3, 14] (setT [3, 14]) (MM.pure true) c_law_1 w (stV dc (some (.d (.dict p))) r3 (some (.d NS)) (some (.d (.list w))) r6 (some (.d KT)) (some (.d O)) (some (.d (.int e))) none none none none none) = .ok (.list B) (stV dc (some (.d (.dict p))) r3 (some (.d NS)) (some (.d (.list w))) r6 (some (.d KT)) (some (.d O)) (some (.d (.int e))) none none none none none)) (h3 : dSum [.list B] = .ok (.int s)) (n1 : dNe (.int (e - s)) (.int (e - s)) = .ok (.bool false)) :
    s_law_8 (stV dc (some (.d (.dict p))) r3 (some (.d NS)) (some (.d (.list w))) r6 (some (.d KT)) (some (.d O)) (some (.d (.int e))) none none none none none) = .ok .nx (stV dc (some (.d (.dict p))) r3 (some (.d NS)) (some (.d (.list w))) r6 (some (.d KT)) (some (.d O)) (some (.d (.int e))) none none none none none) := by
  unfold s_law_8
  unfold stV at *
  simp [-compL_ap, -dSum_list, h1, h2, h3, n1, -dNe_ap]
theorem q9_ok {p : List (D × D)} {w : List D} {K : Str} {O E : D} (h1 : dShow (.list [.dict p, .list w]) = .ok (.str K)) (n1 : dNe (.str K) (.str K) = .ok (.bool false)) :
    s_law_9 (stV dc (some (.d (.dict p))) r3 (some (.d NS)) (some (.d (.list w))) r6 (some (.d (.str K))) (some (.d O)) (some (.d E)) none none none none none) = .ok .nx (stV dc (some (.d (.dict p))) r3 (some (.d NS)) (some (.d (.list w))) r6 (some (.d (.str K))) (some (.d O)) (some (.d E)) none none none none none) := by
  unfold s_law_9 stV strE
  simp [h1, n1, -dNe_ap]
theorem q10_ok {p : List (D × D)} {w f : List D} {O E : D} (h1 : cutD w none (some 5) = f) :
    s_law_10 (stV dc (some (.d (.dict p))) r3 (some (.d NS)) (some (.d (.list w))) r6 (some (.d KT)) (some (.d O)) (some (.d E)) none none none none none) = .ok .nx (stV dc (some (.d (.dict p))) r3 (some (.d NS)) (some (.d (.list w))) r6 (some (.d KT)) (some (.d O)) (some (.d E)) (some (.d (.list f))) none none none none) := by
  unfold s_law_10 stV
  simp [h1]
theorem q11_ok {p : List (D × D)} {w f : List D} {O E : D} (h1 : m__law_best_turn_right [.dict p, .list f] = .ok (.bool true)) :
    s_law_11 (stV dc (some (.d (.dict p))) r3 (some (.d NS)) (some (.d (.list w))) r6 (some (.d KT)) (some (.d O)) (some (.d E)) (some (.d (.list f))) none none none none) = .ok .nx (stV dc (some (.d (.dict p))) r3 (some (.d NS)) (some (.d (.list w))) r6 (some (.d KT)) (some (.d O)) (some (.d E)) (some (.d (.list f))) none none none none) := by
  unfold s_law_11 stV
  simp [h1]
theorem q12_no {p : List (D × D)} {w f : List D} {O E : D} (h : w.length ≤ 7) :
    s_law_12 (stV dc (some (.d (.dict p))) r3 (some (.d NS)) (some (.d (.list w))) r6 (some (.d KT)) (some (.d O)) (some (.d E)) (some (.d (.list f))) none none none none) = .ok .nx (stV dc (some (.d (.dict p))) r3 (some (.d NS)) (some (.d (.list w))) r6 (some (.d KT)) (some (.d O)) (some (.d E)) (some (.d (.list f))) none none none none) := by
  have : ¬ (7 : Int) < (w.length : Nat) := by omega
  unfold s_law_12 stV
  simp [this]
theorem ref_full : (("Full" : Str) ∈ nsX) := by decide +kernel
theorem ref_lots : (("BadLots" : Str) ∈ nsX) := by decide +kernel
theorem ref_moulds : (("BadMoulds" : Str) ∈ nsX) := by decide +kernel
theorem ne_ref {c : Str} (h : PyData.strOk c = true) : dNe (.tuple [.str "refused", .str c]) (.tuple [.str "refused", .str c]) = .ok (.bool false) := by
  have f : Flt 1 (.tuple [.str "refused", .str c]) := flt_tuple (by intro x m; simp at m; rcases m with rfl | rfl; exact flt_str (by decide +kernel); exact flt_str h)
  exact ne_self f.ok
theorem q12_yes {p : List (D × D)} {w f : List D} {O E : D} (h : 7 < w.length) (h1 : m_best_made [.dict p, .list w] = .exn ⟨"Full", none⟩) :
    s_law_12 (stV dc (some (.d (.dict p))) r3 (some (.d NS)) (some (.d (.list w))) r6 (some (.d KT)) (some (.d O)) (some (.d E)) (some (.d (.list f))) none none none none) = .ok .nx (stV dc (some (.d (.dict p))) r3 (some (.d NS)) (some (.d (.list w))) r6 (some (.d KT)) (some (.d O)) (some (.d E)) (some (.d (.list f))) none none none none) := by
  have : (7 : Int) < (w.length : Nat) := by omega
  have n := ne_ref (c := "Full") (by decide +kernel)
  unfold s_law_12 stV
  simp [this, h1, toldK_exn, ref_full, n, -dNe_ap]
theorem q13_ok {p : List (D × D)} {w f : List D} {O E : D} :
    s_law_13 (stV dc (some (.d (.dict p))) r3 (some (.d NS)) (some (.d (.list w))) r6 (some (.d KT)) (some (.d O)) (some (.d E)) (some (.d (.list f))) none none none none) = .ok .nx (stV dc (some (.d (.dict p))) r3 (some (.d NS)) (some (.d (.list w))) r6 (some (.d KT)) (some (.d O)) (some (.d E)) (some (.d (.list f))) (some (.d (.list (badL.take 6)))) none none none) := by rfl
theorem q14_ok {p : List (D × D)} {w f : List D} {O E : D} :
    s_law_14 (stV dc (some (.d (.dict p))) r3 (some (.d NS)) (some (.d (.list w))) r6 (some (.d KT)) (some (.d O)) (some (.d E)) (some (.d (.list f))) (some (.d (.list (badL.take 6)))) none none none) = .ok .nx (stV dc (some (.d (.dict p))) r3 (some (.d NS)) (some (.d (.list w))) r6 (some (.d KT)) (some (.d O)) (some (.d E)) (some (.d (.list f))) (some (.d (.list badL))) none none none) := by rfl
theorem b3_ok {p : List (D × D)} {w f cs : List D} {O E b : D} (h : m_bench_rows [b, .none] = .exn ⟨"BadLots", none⟩) :
    b_law_3 (stV dc (some (.d (.dict p))) r3 (some (.d NS)) (some (.d (.list w))) r6 (some (.d KT)) (some (.d O)) (some (.d E)) (some (.d (.list f))) (some (.d (.list cs))) (some (.d b)) none none) = .ok .nx (stV dc (some (.d (.dict p))) r3 (some (.d NS)) (some (.d (.list w))) r6 (some (.d KT)) (some (.d O)) (some (.d E)) (some (.d (.list f))) (some (.d (.list cs))) (some (.d b)) none none) := by
  have n := ne_ref (c := "BadLots") (by decide +kernel)
  unfold b_law_3 stV
  simp [h, toldK_exn, ref_lots, n, -dNe_ap]
theorem l3_ok {p : List (D × D)} {w f cs : List D} {O E : D} : ∀ (l : List D) (r12 : Option S), (∀ b ∈ l, m_bench_rows [b, .none] = .exn ⟨"BadLots", none⟩) → ∃ r12',
    forD (setD 12) b_law_3 l (stV dc (some (.d (.dict p))) r3 (some (.d NS)) (some (.d (.list w))) r6 (some (.d KT)) (some (.d O)) (some (.d E)) (some (.d (.list f))) (some (.d (.list cs))) r12 none none) = .ok .nx (stV dc (some (.d (.dict p))) r3 (some (.d NS)) (some (.d (.list w))) r6 (some (.d KT)) (some (.d O)) (some (.d E)) (some (.d (.list f))) (some (.d (.list cs))) r12' none none)
  | [], r12, _ => ⟨r12, rfl⟩
  | b :: l, r12, h => by
    obtain ⟨a, ih⟩ := l3_ok l (some (.d b)) fun c m => h c (List.mem_cons_of_mem _ m)
    exact ⟨a, by rw [forD_step (by rfl) (b3_ok (h b List.mem_cons_self)), ih]⟩
theorem q16_ok {p : List (D × D)} {w f cs ns : List D} {O E : D} {one : Str} :
    s_law_16 (stV dc (some (.d (.dict p))) r3 (some (.d (.list (.str one :: ns)))) (some (.d (.list w))) r6 (some (.d KT)) (some (.d O)) (some (.d E)) (some (.d (.list f))) (some (.d (.list cs))) r12 none none) = .ok .nx (stV dc (some (.d (.dict p))) r3 (some (.d (.list (.str one :: ns)))) (some (.d (.list w))) r6 (some (.d KT)) (some (.d O)) (some (.d E)) (some (.d (.list f))) (some (.d (.list cs))) r12 (some (.d (.str one))) none) := by
  unfold s_law_16 stV
  simp
theorem q17_ok {p : List (D × D)} {w f cs : List D} {O E : D} {one : Str} :
    s_law_17 (stV dc (some (.d (.dict p))) r3 (some (.d NS)) (some (.d (.list w))) r6 (some (.d KT)) (some (.d O)) (some (.d E)) (some (.d (.list f))) (some (.d (.list cs))) r12 (some (.d (.str one))) none) = .ok .nx (stV dc (some (.d (.dict p))) r3 (some (.d NS)) (some (.d (.list w))) r6 (some (.d KT)) (some (.d O)) (some (.d E)) (some (.d (.list f))) (some (.d (.list ((badW one).take 8)))) r12 (some (.d (.str one))) none) := by rfl
theorem q18_ok {p : List (D × D)} {w f : List D} {O E : D} {one : Str} :
    s_law_18 (stV dc (some (.d (.dict p))) r3 (some (.d NS)) (some (.d (.list w))) r6 (some (.d KT)) (some (.d O)) (some (.d E)) (some (.d (.list f))) (some (.d (.list ((badW one).take 8)))) r12 (some (.d (.str one))) none) = .ok .nx (stV dc (some (.d (.dict p))) r3 (some (.d NS)) (some (.d (.list w))) r6 (some (.d KT)) (some (.d O)) (some (.d E)) (some (.d (.list f))) (some (.d (.list (badW one)))) r12 (some (.d (.str one))) none) := by rfl
theorem b4_ok {p : List (D × D)} {w f cs : List D} {O E b : D} (h : m_bench_rows [.dict p, b] = .exn ⟨"BadMoulds", none⟩ ∧ m_first_turn [.dict p, b] = .exn ⟨"BadMoulds", none⟩) :
    b_law_4 (stV dc (some (.d (.dict p))) r3 (some (.d NS)) (some (.d (.list w))) r6 (some (.d KT)) (some (.d O)) (some (.d E)) (some (.d (.list f))) (some (.d (.list cs))) (some (.d b)) r13 none) = .ok .nx (stV dc (some (.d (.dict p))) r3 (some (.d NS)) (some (.d (.list w))) r6 (some (.d KT)) (some (.d O)) (some (.d E)) (some (.d (.list f))) (some (.d (.list cs))) (some (.d b)) r13 none) := by
  have n := ne_ref (c := "BadMoulds") (by decide +kernel)
  unfold b_law_4 stV
  simp [h.1, h.2, toldK_exn, ref_moulds, n, -dNe_ap]
theorem l4_ok {p : List (D × D)} {w f cs : List D} {O E : D} : ∀ (l : List D) (r12 : Option S), (∀ b ∈ l, m_bench_rows [.dict p, b] = .exn ⟨"BadMoulds", none⟩ ∧ m_first_turn [.dict p, b] = .exn ⟨"BadMoulds", none⟩) → ∃ r12',
    forD (setD 12) b_law_4 l (stV dc (some (.d (.dict p))) r3 (some (.d NS)) (some (.d (.list w))) r6 (some (.d KT)) (some (.d O)) (some (.d E)) (some (.d (.list f))) (some (.d (.list cs))) r12 r13 none) = .ok .nx (stV dc (some (.d (.dict p))) r3 (some (.d NS)) (some (.d (.list w))) r6 (some (.d KT)) (some (.d O)) (some (.d E)) (some (.d (.list f))) (some (.d (.list cs))) r12' r13 none)
  | [], r12, _ => ⟨r12, rfl⟩
  | b :: l, r12, h => by
    obtain ⟨a, ih⟩ := l4_ok l (some (.d b)) fun c m => h c (List.mem_cons_of_mem _ m)
    exact ⟨a, by rw [forD_step (by rfl) (b4_ok (h b List.mem_cons_self)), ih]⟩
end
end Mi
set_option Elab.async false
set_option linter.all false
set_option maxRecDepth 100000
set_option maxHeartbeats 4000000
namespace Mi
open PySem L2
theorem cut3 {r : Nat} (h : r < 3) : cutD [.str "ann", .str "bob", .str "cy"] (some (r : Int)) none = (nm3.drop r).map .str := by
  have : r = 0 ∨ r = 1 ∨ r = 2 := by omega
  rcases this with rfl | rfl | rfl <;> rfl
theorem cut5 (w : List Mo) : cutD (w.map e2) none (some 5) = (w.take 5).map e2 := by
  by_cases h : 5 ≤ w.length
  · exact cut_to e2 w 5 (by omega)
  · have e : w.take 5 = w := List.take_of_length_le (by omega)
    have e5 : (5 : Int) = ((5 : Nat) : Int) := rfl
    rw [e]
    unfold cutD
    rw [e5, HT.sIx_nat, HT.sIx_none, List.length_map, Nat.min_eq_right (by omega)]
    rw [List.take_of_length_le (by simp)]
    rfl
theorem round_ok : RoundOk 15 b_law := by
  intro x y
  obtain ⟨r, x1, y1, a0, a1, e1⟩ := roll_ok x y 3 (by decide) (by decide)
  obtain ⟨r, rfl⟩ : ∃ m : Nat, r = m := ⟨r.toNat, by omega⟩
  have hr : r < 3 := by omega
  have nd : (nm3.drop r).Nodup := nm3_nd.sublist (List.drop_sublist _ _)
  have ln : (nm3.drop r).length = 3 - r := by rw [List.length_drop]; rfl
  obtain ⟨ps, x2, y2, r3, ok3, hnm, hb, e3⟩ := pat_loop (nm3.drop r) [] x1 y1 none (.inl rfl) (by simpa [nmP] using nd) (by rw [ln]; show 0 + _ < 100; omega)
  rw [List.nil_append] at e3
  have pl : ps.length = 3 - r := by rw [← nm_len, hnm, ln]
  have g : GP ps := by
    refine ⟨by omega, by omega, by rw [hnm]; exact nd, fun n m => ?_, fun p m => by have := hb p m; omega⟩
    rw [hnm] at m
    exact nm3_word n (List.mem_of_mem_drop m)
  have rise : (nmP ps).Pairwise fun a b => leD (.str b) (.str a) = false := by
    rw [hnm]
    exact nm3_rise.sublist (List.drop_sublist _ _)
  have nne : nmP ps ≠ [] := fun z => by
    have := congrArg List.length z
    rw [nm_len, pl] at this
    have l0 : ([] : List Str).length = 0 := rfl
    rw [l0] at this
    omega
  have s3 := sorted_P rise (by omega)
  obtain ⟨n, x3, y3, n0, n1, e4⟩ := roll_ok x2 y2 14 (by decide) (by decide)
  obtain ⟨n, rfl⟩ : ∃ m : Nat, n = m := ⟨n.toNat, by omega⟩
  obtain ⟨w, x4, y4, r6, hwl, hw, e5⟩ := want_loop (ns := nmP ps) (K := kvP ps) (r3 := r3) nne (by rw [nm_len]; omega) ((List.range n).map fun i : Nat => .int (i : Int)) [] x3 y3 none (by simp; omega)
  rw [List.nil_append] at e5
  have hwn : w.length = n := by rw [hwl]; simp
  have gw : GWt ps w := ⟨fun p m => ⟨(hw p m).1, (hw p m).2.1, by have := (hw p m).2.2; omega⟩, by omega⟩
  have gf : GWt ps (w.take 5) := ⟨fun p m => gw.m p (List.mem_of_mem_take m), by rw [List.length_take]; omega⟩
  obtain ⟨sh1, sh2⟩ := show_ok g gw
  obtain ⟨K, hK⟩ : ∃ K, (D.list [.dict (kvP ps), lstE e2 w]).py.shown = K := ⟨_, rfl⟩
  rw [hK] at sh2
  have hsh : dShow (.list [.dict (kvP ps), .list (w.map e2)]) = .ok (.str K) := by
    show (if shOk (D.list [.dict (kvP ps), lstE e2 w]) = true then Res.ok (D.str (D.list [.dict (kvP ps), lstE e2 w]).py.shown) else .stuck) = _
    rw [if_pos sh1, hK]
  obtain ⟨one, ns, hone⟩ : ∃ one ns, nmP ps = one :: ns := List.exists_cons_of_ne_nil nne
  have m1 : one ∈ nmP ps := by rw [hone]; exact List.mem_cons_self
  have hz : ("zed" : Str) ∉ nmP ps := by
    rw [hnm]
    exact fun m => absurd (List.mem_of_mem_drop m) (by decide +kernel)
  have nw := nn_list (n := 1) (by omega) (xs := w.map e2) fun d m => by
    obtain ⟨p, mp, rfl⟩ := List.mem_map.mp m
    exact flt_e2 (g.w _ (gw.m p mp).1)
  have main : Wp (b_law (roundSt 15 x y)) fun fl ρ' => (fl = .nx ∨ fl = .ct) ∧ isDc ρ'[1]? = true ∧ ρ'.length = 16 := by
    unfold b_law
    refine wp_step q1_ok ?_
    refine wp_step (q2_body e1 (cut3 hr) e3) ?_
    refine wp_frz (ρ' := stA x2 y2 (some (.d (.dict (kvP ps)))) r3 none none none) rfl ?_
    refine wp_step (q3_ok s3) ?_
    refine wp_step (q4_body e4 (rng_nat (by omega)) e5) ?_
    refine wp_frz (ρ' := stV (some (.dc [.int x4, .int y4])) (some (.d (.dict (kvP ps)))) r3 (some (.d (.list ((nmP ps).map D.str)))) (some (.d (.list (w.map e2)))) r6 none none none none none none none none) rfl ?_
    refine wp_step (q5_ok hsh (bench_ok g gw)) ?_
    have key : Wp (seqS s_law_6 (seqS s_law_7 (seqS s_law_8 (seqS s_law_9 (seqS s_law_10 (seqS s_law_11 (seqS s_law_12 (seqS s_law_13 (seqS s_law_14 (seqS s_law_15 (seqS s_law_16 (seqS s_law_17 (seqS s_law_18 s_law_19))))))))))))
        (stV (some (.dc [.int x4, .int y4])) (some (.d (.dict (kvP ps)))) r3 (some (.d (.list ((nmP ps).map D.str)))) (some (.d (.list (w.map e2)))) r6 (some (.d (.str K))) (some (.d (outB (bench ps w)))) none none none none none none)) fun fl ρ' => (fl = .nx ∨ fl = .ct) ∧ isDc ρ'[1]? = true ∧ ρ'.length = 16 := by
      have s6 : s_law_6 (stV (some (.dc [.int x4, .int y4])) (some (.d (.dict (kvP ps)))) r3 (some (.d (.list ((nmP ps).map D.str)))) (some (.d (.list (w.map e2)))) r6 (some (.d (.str K))) (some (.d (outB (bench ps w)))) none none none none none none) = .ok .nx (stV (some (.dc [.int x4, .int y4])) (some (.d (.dict (kvP ps)))) r3 (some (.d (.list ((nmP ps).map D.str)))) (some (.d (.list (w.map e2)))) r6 (some (.d (.str K))) (some (.d (outB (bench ps w)))) (some (.d (.int (bench ps w).now))) none none none none none) := by
        by_cases z : w = []
        · subst z
          exact q6_no rfl
        · rcases last_eval g gw with ⟨h1, _, _⟩ | ⟨a, b, _, _, h4⟩
          · have hl := (bench_len ps w bn0).1
            have hr0 : (w.foldl (bstep ps) bn0).rows = [] := h1
            rw [hr0] at hl
            have : w.length = 0 := by
              have : bn0.rows.length = 0 := rfl
              simp at hl
              omega
            exact absurd (List.eq_nil_of_length_eq_zero this) z
          · rw [decide_eq_true (by simpa using z)] at nw
            exact q6_yes nw h4
      refine wp_step s6 ?_
      refine wp_step (q7_ok (rows_ok g gw) (mends_ok g gw) (ne_self (flt_rws g gw).ok) (ne_self (flt_mds g gw).ok)) ?_
      have kp3 : keepd (some r3) = r3 := by rcases ok3 with rfl | ⟨v, rfl⟩ <;> rfl
      have c8 := compL_mapT (os := [3, 14]) (gt := setT [3, 14]) (el := c_law_1) (enc := e2) (f := fun p : Mo => .int p.2) (l := w) (ρ := stV (some (.dc [.int x4, .int y4])) (some (.d (.dict (kvP ps)))) r3 (some (.d (.list ((nmP ps).map D.str)))) (some (.d (.list (w.map e2)))) r6 (some (.d (.str K))) (some (.d (outB (bench ps w)))) (some (.d (.int (bench ps w).now))) none none none none none) (by omega) (by
          intro i hi
          simp at hi
          rcases hi with rfl | rfl
          · exact kp3
          · rfl) fun p m =>
        ⟨stV (some (.dc [.int x4, .int y4])) (some (.d (.dict (kvP ps)))) (some (.d (.str p.1))) (some (.d (.list ((nmP ps).map D.str)))) (some (.d (.list (w.map e2)))) r6 (some (.d (.str K))) (some (.d (outB (bench ps w)))) (some (.d (.int (bench ps w).now))) none none none none (some (.d (.int p.2))), rfl, by simp [stV], rfl⟩
      refine wp_step (q8_ok (waited_ok g gw) c8 (dSum_map (fun p : Mo => p.2) w) (ne_self rfl)) ?_
      refine wp_step (q9_ok hsh (ne_self (eqOk_str sh2))) ?_
      refine wp_step (q10_ok (cut5 w)) ?_
      refine wp_step (q11_ok (right_ok g gf (by rw [List.length_take]; omega))) ?_
      have s12 : s_law_12 (stV (some (.dc [.int x4, .int y4])) (some (.d (.dict (kvP ps)))) r3 (some (.d (.list ((nmP ps).map D.str)))) (some (.d (.list (w.map e2)))) r6 (some (.d (.str K))) (some (.d (outB (bench ps w)))) (some (.d (.int (bench ps w).now))) (some (.d (.list ((w.take 5).map e2)))) none none none none) = .ok .nx (stV (some (.dc [.int x4, .int y4])) (some (.d (.dict (kvP ps)))) r3 (some (.d (.list ((nmP ps).map D.str)))) (some (.d (.list (w.map e2)))) r6 (some (.d (.str K))) (some (.d (outB (bench ps w)))) (some (.d (.int (bench ps w).now))) (some (.d (.list ((w.take 5).map e2)))) none none none none) := by
        have lm : (w.map e2).length = w.length := List.length_map ..
        by_cases z : 7 < w.length
        · exact q12_yes (by rw [lm]; exact z) (best_full g gw z)
        · exact q12_no (by rw [lm]; omega)
      refine wp_step s12 ?_
      refine wp_step q13_ok ?_
      refine wp_step q14_ok ?_
      obtain ⟨r12, e15⟩ := l3_ok (dc := some (.dc [.int x4, .int y4])) (r3 := r3) (r6 := r6) (NS := .list ((nmP ps).map D.str)) (KT := .str K) (p := kvP ps) (w := w.map e2) (f := (w.take 5).map e2) (cs := badL) (O := outB (bench ps w)) (E := .int (bench ps w).now) badL none badL_ok
      have s15 : s_law_15 (stV (some (.dc [.int x4, .int y4])) (some (.d (.dict (kvP ps)))) r3 (some (.d (.list ((nmP ps).map D.str)))) (some (.d (.list (w.map e2)))) r6 (some (.d (.str K))) (some (.d (outB (bench ps w)))) (some (.d (.int (bench ps w).now))) (some (.d (.list ((w.take 5).map e2)))) (some (.d (.list badL))) none none none) = .ok .nx (stV (some (.dc [.int x4, .int y4])) (some (.d (.dict (kvP ps)))) r3 (some (.d (.list ((nmP ps).map D.str)))) (some (.d (.list (w.map e2)))) r6 (some (.d (.str K))) (some (.d (outB (bench ps w)))) (some (.d (.int (bench ps w).now))) (some (.d (.list ((w.take 5).map e2)))) (some (.d (.list badL))) r12 none none) := e15
      refine wp_step s15 ?_
      have eN : (nmP ps).map D.str = .str one :: ns.map D.str := by rw [hone]; rfl
      rw [eN]
      refine wp_step q16_ok ?_
      refine wp_step q17_ok ?_
      refine wp_step q18_ok ?_
      obtain ⟨r12', e19⟩ := l4_ok (dc := some (.dc [.int x4, .int y4])) (r3 := r3) (r6 := r6) (r13 := some (.d (.str one))) (NS := .list (.str one :: ns.map D.str)) (KT := .str K) (p := kvP ps) (w := w.map e2) (f := (w.take 5).map e2) (cs := badW one) (O := outB (bench ps w)) (E := .int (bench ps w).now) (badW one) r12 fun b m => rows_bad (need_badW g m1 hz b m)
      exact wp_last (ρ' := _) e19 ⟨.inl rfl, rfl, rfl⟩
    exact key
  obtain ⟨fl, ρ', e, hf, h1, h2⟩ := main
  rcases hf with rfl | rfl
  · exact ⟨ρ', .inl e, h1, h2⟩
  · exact ⟨ρ', .inr e, h1, h2⟩
end Mi
theorem PySem.Challenge.cw_castinghall_k30_whole_patterns_holds : PySem.Challenge.rw_castinghall_k30_whole_patterns.Holds := by
  exact Mi.holds_of Mi.round_ok
