import PyProof.Rows.All
import Wide.All
import OpenK.AllK
import Wide.FinOn
import HandS.ForMost
import HandS.Exc
import HandS.Lambda
import HandS.HeadHook1
import HandS.IsInst
import HandS.DictComp
import HandS.Zip
import HandS.Wide
import HandS.TupAny
import HandS.TupLe
import HandS.ForExc
import HandS.ExcCtx
import HandS.HeadHook2
import HandS.Defaults
import HandS.More
import KE.KDictPairs
import KE.SortData
import KE.OsSortAny
import HandS.HeadNt
import HandS.Head0
import HandS.Head1
import HandS.Head2
import HandS.HeadEnd
import HandS.HeadHook3
import HandS.HeadHook4
import HandS.HeadWalk
import HandS.HotCalls
import HandS.TryMany
import HandS.ExcIs
import HandS.RaiseMore
import HandS.Strs
import HandS.SetFor
import HandS.Text
import KE.KeyNested
import KE.DataCmp
import HandS.Style
import KE.GoesMore
import KE.DataMinMax
import KE.KStateDown
import PySem.Challenge.RW_castinghall_k14_whole_apart
set_option Elab.async false
set_option linter.all false
set_option maxRecDepth 100000
set_option maxHeartbeats 4000000
/-! the mirror layer: expressions and statements of the text as plain functions over data -/
namespace Mi
open PySem L2

/-- data, with places of the store -/
inductive D where
  | none
  | bool (b : Bool)
  | int (i : Int)
  | str (s : Str)
  | list (xs : List D)
  | tuple (xs : List D)
  | dict (kvs : List (D × D))
  | loc (n : Nat)
mutual
def D.py : D → PyData
  | .none => .none
  | .bool b => .bool b
  | .int i => .int i
  | .str s => .str s
  | .list xs => .list (pys xs)
  | .tuple xs => .tuple (pys xs)
  | .dict kvs => .dict (pykv kvs)
  | .loc _ => .none
def pys : List D → List PyData
  | [] => []
  | x :: xs => x.py :: pys xs
def pykv : List (D × D) → List (PyData × PyData)
  | [] => []
  | (k, v) :: kvs => (k.py, v.py) :: pykv kvs
end
theorem pys_map : ∀ xs : List D, pys xs = xs.map D.py
  | [] => rfl
  | x :: xs => by rw [pys, pys_map xs]; rfl
def D.eqv (d e : D) : Bool := PyData.eqv d.py e.py
def D.eqvAll (xs ys : List D) : Bool := PyData.eqvAll (pys xs) (pys ys)
def D.canLay0 (d : D) : Bool := PyData.canLay0 d.py
def D.canLayAll0 (xs : List D) : Bool := PyData.canLayAll0 (pys xs)
def D.depth (d : D) : Nat := PyData.depth d.py
def D.depthAll (xs : List D) : Nat := PyData.depthAll (pys xs)
/-- a cell of the store -/
inductive Cell where
  | lst (xs : List D)
  | dic (kvs : List (D × D))
  | tdc (kvs : List (D × D))
  /-- a dict that is walked now: read, not changed -/
  | dlk (kvs : List (D × D))
  | obj (C : Str) (fs : List (Str × D))
  | gone
abbrev Sto := List Cell
abbrev St := L2.St
abbrev Fg := PySem.W.Frag
/-- the tables, and how a dict with tuples as keys stands -/
structure Tb where
  tabs : List (Addr × Str)
  td : Addr → List (V × V) → List (D × D) → HO → Prop
instance : Coe Tb (List (Addr × Str)) := ⟨Tb.tabs⟩
/-! ### the still heap -/
structure Wd where
  hp : Hp
  m : List Addr
instance : CoeFun Wd (fun _ => Addr → Option HO) := ⟨Wd.hp⟩
instance : Coe Wd Hp := ⟨Wd.hp⟩
abbrev wupd (G : Wd) (p : Addr) (o : HO) : Wd := ⟨upd G.hp p o, G.m⟩
structure Le (G G' : Wd) : Prop where
  h : ∀ a o, G a = some o → G' a = some o
  m : G.m <+: G'.m
def Lh (G : Wd) (H : Hp) : Prop := ∀ a o, G a = some o → H a = some o
theorem Le.refl (G : Wd) : Le G G := ⟨fun _ _ h => h, List.prefix_refl _⟩
theorem Le.trans {G G1 G2 : Wd} (a : Le G G1) (b : Le G1 G2) : Le G G2 := ⟨fun x o h => b.h x o (a.h x o h), a.m.trans b.m⟩
theorem Le.lh {G G1 : Wd} {H : Hp} (a : Le G G1) (b : Lh G1 H) : Lh G H := fun x o h => b x o (a.h x o h)
theorem Le.upd {G : Wd} {p : Addr} {o : HO} (h : G p = none) : Le G (wupd G p o) := ⟨fun a u e => by
  show L2.upd G.hp p o a = some u
  rw [upd_ne (ne_of_none e h)]; exact e, List.prefix_refl _⟩
theorem Le.loc {G G' : Wd} (l : Le G G') {n : Nat} {a : Addr} (h : G.m[n]? = some a) : G'.m[n]? = some a := by
  obtain ⟨t, e⟩ := l.m
  rw [← e, List.getElem?_append_left (List.getElem?_eq_some_iff.mp h).1]; exact h
structure Sub (G H : Hp) : Prop where
  rd : ∀ a u, (∀ o w, u ≠ .frz o w) → Rd G a u → Rd H a u
  fz : ∀ a o xs, G a = some (.frz o (.tup xs)) → H a = some (.frz o (.tup xs))
  fd : ∀ a o xs, G a = some (.frz o (.dK xs)) → H a = some (.frz o (.dK xs))
/-- a dict that is locked for good -/
def DicAt (G : Hp) (a : Addr) (kvs : List (Key × V)) : Prop := ∃ o, G a = some (.frz o (.dK kvs))
theorem DicAt.rd {G : Hp} {a : Addr} {kvs : List (Key × V)} (h : DicAt G a kvs) : Rd G a (.dK kvs) := .inr h
theorem DicAt.sub {G H : Hp} {a : Addr} {kvs : List (Key × V)} (h : DicAt G a kvs) (s : Sub G H) : DicAt H a kvs := h.imp fun o e => s.fd _ _ _ e
/-- a tuple whose object has no dict of its own -/
def TupAt (K : Fg) (G : Hp) (a : Addr) (xs : List V) : Prop := (∃ o, G a = some (.frz o (.tup xs)) ∧ o.dict = none) ∨
  ∃ (o : Obj) (its : Array Value) (n : Nat), K.lookup a = some o ∧ o.cls = .type "tuple" ∧ o.dict = none ∧ o.data = .seq its n ∧ its.size ≤ sizeLine ∧ Vals xs its.toList
theorem TupAt.sq {K : Fg} {G : Hp} {a : Addr} {xs : List V} (h : TupAt K G a xs) : SqT K G a xs := by
  rcases h with ⟨o, h, _⟩ | ⟨o, its, n, h1, h2, _, h3⟩
  · exact .inl (.inr ⟨o, h⟩)
  · exact .inr ⟨o, its, n, h1, h2, h3⟩
theorem TupAt.sub {K : Fg} {G H : Hp} {a : Addr} {xs : List V} (h : TupAt K G a xs) (s : Sub G H) : TupAt K H a xs := by
  rcases h with ⟨o, h, d⟩ | h
  · exact .inl ⟨o, s.fz _ _ _ h, d⟩
  · exact .inr h
theorem sub_of {G H : Hp} (h : ∀ a o, G a = some o → H a = some o) : Sub G H := ⟨fun a o _ r => by
  rcases r with r | ⟨ob, r⟩
  · exact .inl (h _ _ r)
  · exact .inr ⟨ob, h _ _ r⟩, fun a o xs e => h _ _ e, fun a o xs e => h _ _ e⟩
theorem Le.sub {G G' : Wd} (h : Le G G') : Sub G G' := sub_of h.h
theorem Lh.sub {G : Wd} {H : Hp} (h : Lh G H) : Sub G H := sub_of h
theorem sqL_sub {K : Fg} {G H : Hp} {a : Addr} {xs : List V} (h : SqL K G a xs) (s : Sub G H) : SqL K H a xs := by
  rcases h with h | h
  · exact .inl (s.rd _ _ (fun _ _ z => by cases z) h)
  · exact .inr h
theorem sqT_sub {K : Fg} {G H : Hp} {a : Addr} {xs : List V} (h : SqT K G a xs) (s : Sub G H) : SqT K H a xs := by
  rcases h with h | h
  · exact .inl (s.rd _ _ (fun _ _ z => by cases z) h)
  · exact .inr h
/-! ### data -/
def keyD : Key → D
  | .inl i => .int i
  | .inr s => .str s
theorem keyD_inj {k k' : Key} (h : keyD k = keyD k') : k = k' := by
  cases k <;> cases k' <;> simp_all [keyD]
mutual
inductive Dq (K : Fg) (G : Wd) : V → D → Prop
  | non : Dq K G .non .none
  | bl (b : Bool) : Dq K G (.bl b) (.bool b)
  | int (i : Int) : Dq K G (.int i) (.int i)
  | str (x : Str) : Dq K G (.str x) (.str x)
  | lst {a : Addr} {xs : List V} {ds : List D} : Rd G a (.lst xs) → DqAll K G xs ds → Dq K G (.ref a) (.list ds)
  | tup {a : Addr} {xs : List V} {ds : List D} : TupAt K G a xs → DqAll K G xs ds → Dq K G (.ref a) (.tuple ds)
  | dic {a : Addr} {kvs : List (Key × V)} {ds : List (D × D)} : DicAt G a kvs → DqKV K G kvs ds → Dq K G (.ref a) (.dict ds)
  | loc {a : Addr} {n : Nat} : G.m[n]? = some a → Dq K G (.ref a) (.loc n)
inductive DqAll (K : Fg) (G : Wd) : List V → List D → Prop
  | nil : DqAll K G [] []
  | cons {v : V} {vs : List V} {d : D} {ds : List D} : Dq K G v d → DqAll K G vs ds → DqAll K G (v :: vs) (d :: ds)
inductive DqKV (K : Fg) (G : Wd) : List (Key × V) → List (D × D) → Prop
  | nil : DqKV K G [] []
  | cons {k : Key} {v : V} {kvs : List (Key × V)} {d : D} {ds : List (D × D)} : Dq K G v d → DqKV K G kvs ds → DqKV K G ((k, v) :: kvs) ((keyD k, d) :: ds)
end
mutual
theorem Dq.sub {K : Fg} {G G' : Wd} (s : Sub G G') (pm : ∀ (n : Nat) (a : Addr), G.m[n]? = some a → G'.m[n]? = some a) : ∀ {v : V} {d : D}, Dq K G v d → Dq K G' v d
  | _, _, .non => .non
  | _, _, .bl b => .bl b
  | _, _, .int i => .int i
  | _, _, .str x => .str x
  | _, _, .lst h t => .lst (s.rd _ _ (fun _ _ z => by cases z) h) (DqAll.sub s pm t)
  | _, _, .tup h t => .tup (h.sub s) (DqAll.sub s pm t)
  | _, _, .dic h t => .dic (h.sub s) (DqKV.sub s pm t)
  | _, _, .loc h => .loc (pm _ _ h)
theorem DqAll.sub {K : Fg} {G G' : Wd} (s : Sub G G') (pm : ∀ (n : Nat) (a : Addr), G.m[n]? = some a → G'.m[n]? = some a) : ∀ {vs : List V} {ds : List D}, DqAll K G vs ds → DqAll K G' vs ds
  | _, _, .nil => .nil
  | _, _, .cons h t => .cons (Dq.sub s pm h) (DqAll.sub s pm t)
theorem DqKV.sub {K : Fg} {G G' : Wd} (s : Sub G G') (pm : ∀ (n : Nat) (a : Addr), G.m[n]? = some a → G'.m[n]? = some a) : ∀ {kvs : List (Key × V)} {ds : List (D × D)}, DqKV K G kvs ds → DqKV K G' kvs ds
  | _, _, .nil => .nil
  | _, _, .cons h t => .cons (Dq.sub s pm h) (DqKV.sub s pm t)
end
theorem Dq.le {K : Fg} {G G' : Wd} {v : V} {d : D} (h : Dq K G v d) (l : Le G G') : Dq K G' v d := h.sub l.sub fun _ _ => l.loc
theorem DqAll.le {K : Fg} {G G' : Wd} {v : List V} {d : List D} (h : DqAll K G v d) (l : Le G G') : DqAll K G' v d := h.sub l.sub fun _ _ => l.loc
theorem DqKV.le {K : Fg} {G G' : Wd} {v : List (Key × V)} {d : List (D × D)} (h : DqKV K G v d) (l : Le G G') : DqKV K G' v d := h.sub l.sub fun _ _ => l.loc
theorem Dq.up {K : Fg} {G : Wd} {H : Hp} {v : V} {d : D} (h : Dq K G v d) (l : Lh G H) : Dq K ⟨H, G.m⟩ v d := Dq.sub (G' := ⟨H, G.m⟩) l.sub (fun _ _ z => z) h
theorem DqAll.up {K : Fg} {G : Wd} {H : Hp} {v : List V} {d : List D} (h : DqAll K G v d) (l : Lh G H) : DqAll K ⟨H, G.m⟩ v d := DqAll.sub (G' := ⟨H, G.m⟩) l.sub (fun _ _ z => z) h
theorem DqAll.length {K : Fg} {G : Wd} : ∀ {vs : List V} {ds : List D}, DqAll K G vs ds → vs.length = ds.length
  | _, _, .nil => rfl
  | _, _, .cons _ t => by simp [DqAll.length t]
theorem DqKV.length {K : Fg} {G : Wd} : ∀ {vs : List (Key × V)} {ds : List (D × D)}, DqKV K G vs ds → vs.length = ds.length
  | _, _, .nil => rfl
  | _, _, .cons _ t => by simp [DqKV.length t]
theorem DqAll.app {K : Fg} {G : Wd} : ∀ {vs ws : List V} {ds es : List D}, DqAll K G vs ds → DqAll K G ws es → DqAll K G (vs ++ ws) (ds ++ es)
  | _, _, _, _, .nil, h => h
  | _, _, _, _, .cons h t, h2 => .cons h (DqAll.app t h2)
theorem DqAll.one {K : Fg} {G : Wd} {v : V} {d : D} (h : Dq K G v d) : DqAll K G [v] [d] := .cons h .nil
theorem DqAll.get {K : Fg} {G : Wd} : ∀ {vs : List V} {ds : List D} {i : Nat} {v : V}, DqAll K G vs ds → vs[i]? = some v → ∃ d, ds[i]? = some d ∧ Dq K G v d
  | _, _, _, _, .nil, e => by simp at e
  | _, _, 0, _, .cons h _, e => by simp at e; subst e; exact ⟨_, rfl, h⟩
  | _, _, i + 1, v, .cons _ t, e => by
    obtain ⟨d, h1, h2⟩ := DqAll.get (i := i) (v := v) t (by simpa using e)
    exact ⟨d, by simpa using h1, h2⟩
theorem DqAll.getD {K : Fg} {G : Wd} : ∀ {vs : List V} {ds : List D} {i : Nat} {d : D}, DqAll K G vs ds → ds[i]? = some d → ∃ v, vs[i]? = some v ∧ Dq K G v d
  | _, _, _, _, .nil, e => by simp at e
  | _, _, 0, _, .cons h _, e => by simp at e; subst e; exact ⟨_, rfl, h⟩
  | _, _, i + 1, v, .cons _ t, e => by
    obtain ⟨d, h1, h2⟩ := DqAll.getD (i := i) (d := v) t (by simpa using e)
    exact ⟨d, by simpa using h1, h2⟩
theorem DqAll.take {K : Fg} {G : Wd} : ∀ {vs : List V} {ds : List D} (n : Nat), DqAll K G vs ds → DqAll K G (vs.take n) (ds.take n)
  | _, _, 0, _ => .nil
  | _, _, _ + 1, .nil => .nil
  | _, _, n + 1, .cons h t => .cons h (DqAll.take n t)
theorem DqAll.drop {K : Fg} {G : Wd} : ∀ {vs : List V} {ds : List D} (n : Nat), DqAll K G vs ds → DqAll K G (vs.drop n) (ds.drop n)
  | _, _, 0, h => h
  | _, _, _ + 1, .nil => .nil
  | _, _, n + 1, .cons _ t => DqAll.drop n t
theorem DqAll.set {K : Fg} {G : Wd} {v : V} {d : D} (r : Dq K G v d) : ∀ {vs : List V} {ds : List D} (i : Nat), DqAll K G vs ds → DqAll K G (vs.set i v) (ds.set i d)
  | _, _, _, .nil => .nil
  | _, _, 0, .cons _ t => .cons r t
  | _, _, i + 1, .cons q t => .cons q (DqAll.set r i t)
/-! ### results -/
structure Exn where
  cls : Str
  lacks : Option Int := none
deriving DecidableEq
inductive Res (α : Type) where
  | ok (a : α)
  | exn (e : Exn)
  | stuck
def Res.bind {α β : Type} : Res α → (α → Res β) → Res β
  | .ok a, f => f a
  | .exn e, _ => .exn e
  | .stuck, _ => .stuck
instance : Monad Res where
  pure := Res.ok
  bind := Res.bind
/-! ### slots -/
inductive S where
  | d (x : D)
  | ol (xs : List D)
  | od (kvs : List (D × D))
  | dc (xs : List D)
  /-- the store, in the place behind the last name; may it be changed -/
  | sto (rw : Bool) (μ : Sto)
def S.own : S → Bool
  | .d _ => false
  | .sto _ _ => false
  | _ => true
def S.isSto : S → Bool
  | .sto _ _ => true
  | _ => false
abbrev MSt := List (Option S)
inductive Out (α : Type) where
  | ok (a : α) (ρ : MSt)
  | exn (e : Exn) (ρ : MSt)
  | stuck
abbrev MM (α : Type) := MSt → Out α
def MM.bind {α β : Type} (f : MM α) (g : α → MM β) : MM β := fun ρ => match f ρ with
  | .ok a ρ' => g a ρ'
  | .exn e ρ' => .exn e ρ'
  | .stuck => .stuck
def MM.pure {α : Type} (a : α) : MM α := fun ρ => .ok a ρ
def lift {α : Type} (r : Res α) : MM α := fun ρ => match r with
  | .ok a => .ok a ρ
  | .exn e => .exn e ρ
  | .stuck => .stuck
def stuck {α : Type} : MM α := fun _ => .stuck
instance : Monad MM where
  pure := MM.pure
  bind := MM.bind
def RS (K : Fg) (da : Addr) (G : Wd) (H : Hp) : S → V → Prop
  | .d x, v => Dq K G v x
  | .ol xs, v => ∃ a vs, v = .ref a ∧ G a = none ∧ H a = some (.lst vs) ∧ DqAll K G vs xs
  | .od kvs, v => ∃ a es, v = .ref a ∧ G a = none ∧ H a = some (.dK es) ∧ DqKV K G es kvs
  | .dc xs, v => v = .ref da ∧ ∃ a vs, v = .ref a ∧ G a = none ∧ H a = some (.lst vs) ∧ DqAll K G vs xs
  | .sto _ _, _ => False
/-- the fields of an object -/
inductive DqF (K : Fg) (G : Wd) : List (Str × V) → List (Str × D) → Prop
  | nil : DqF K G [] []
  | cons {x : Str} {v : V} {d : D} {vs : List (Str × V)} {ds : List (Str × D)} : Dq K G v d → DqF K G vs ds → DqF K G ((x, v) :: vs) ((x, d) :: ds)
theorem DqF.le {K : Fg} {G G' : Wd} (l : Le G G') : ∀ {vs : List (Str × V)} {ds : List (Str × D)}, DqF K G vs ds → DqF K G' vs ds
  | _, _, .nil => .nil
  | _, _, .cons h t => .cons (h.le l) (t.le l)
/-- a dict whose keys are tuples of data: its entries -/
inductive DqKT (K : Fg) (G : Wd) : List (V × V) → List (D × D) → Prop
  | nil : DqKT K G [] []
  | cons {u v : V} {k d : D} {vs : List (V × V)} {ds : List (D × D)} : Dq K G u k → Dq K G v d → DqKT K G vs ds → DqKT K G ((u, v) :: vs) ((k, d) :: ds)
theorem DqKT.le {K : Fg} {G G' : Wd} (l : Le G G') : ∀ {vs : List (V × V)} {ds : List (D × D)}, DqKT K G vs ds → DqKT K G' vs ds
  | _, _, .nil => .nil
  | _, _, .cons k h t => .cons (k.le l) (h.le l) (t.le l)
/-- what stands at a cell's address -/
inductive CellAt (K : Fg) (T : Tb) (G : Wd) (H : Hp) (a : Addr) : Cell → Prop
  | lst {vs : List V} {xs : List D} : H a = some (.lst vs) → DqAll K G vs xs → CellAt K T G H a (.lst xs)
  | dic {es : List (Key × V)} {kvs : List (D × D)} : H a = some (.dK es) → DqKV K G es kvs → CellAt K T G H a (.dic kvs)
  | tdc {es : List (V × V)} {kvs : List (D × D)} {o : HO} : T.td a es kvs o → (∀ x q, o ≠ LamX.CodeO x q) → (∀ ps, o ≠ .tbl ps) → (∀ x, o ≠ .own x) → H a = some o → DqKT K G es kvs → CellAt K T G H a (.tdc kvs)
  | dlk {ob : Obj} {es : List (Key × V)} {kvs : List (D × D)} : H a = some (.frz ob (.dK es)) → DqKV K G es kvs → CellAt K T G H a (.dlk kvs)
  | obj {C : Str} {dx : Addr} {vs : List (Str × V)} {fs : List (Str × D)} : H a = some (.ins (He.ga K C) dx vs) → H dx = some (.own a) → G dx = none → DqF K G vs fs → CellAt K T G H a (.obj C fs)
  | gone {o : HO} : H a = some o → (∀ ps, o ≠ .tbl ps) → (∀ x q, o ≠ LamX.CodeO x q) → (∀ x, o ≠ .own x) → CellAt K T G H a .gone
section
variable {K : Fg} {T : Tb} {G G' : Wd} {H H' : Hp} {σ : St} {ρ : MSt}
theorem CellAt.keep {a : Addr} {u : Cell} (h : CellAt K T G H a u) (l : Le G G') (n : ∀ b x, G b = none → H b = some (.own x) → G' b = none) (k : ∀ b o, H b = some o → (b = a ∨ ∃ x, o = .own x) → H' b = some o) : CellAt K T G' H' a u := by
  cases h with
  | lst h r => exact .lst (k _ _ h (.inl rfl)) (r.le l)
  | dic h r => exact .dic (k _ _ h (.inl rfl)) (r.le l)
  | dlk h r => exact .dlk (k _ _ h (.inl rfl)) (r.le l)
  | tdc t c1 c2 c3 h r => exact .tdc t c1 c2 c3 (k _ _ h (.inl rfl)) (r.le l)
  | obj h h2 g r => exact .obj (k _ _ h (.inl rfl)) (k _ _ h2 (.inr ⟨_, rfl⟩)) (n _ _ g h2) (r.le l)
  | gone h c1 c2 c3 => exact .gone (k _ _ h (.inl rfl)) c1 c2 c3
theorem CellAt.here {a : Addr} {u : Cell} (h : CellAt K T G H a u) : ∃ o, H a = some o ∧ (∀ ps, o ≠ .tbl ps) ∧ (∀ x q, o ≠ LamX.CodeO x q) ∧ (∀ x, o ≠ .own x) := by
  cases h with
  | lst h r => exact ⟨_, h, (fun _ z => by cases z), (fun _ _ z => by unfold LamX.CodeO at z; cases z), (fun _ z => by cases z)⟩
  | dic h r => exact ⟨_, h, (fun _ z => by cases z), (fun _ _ z => by unfold LamX.CodeO at z; cases z), (fun _ z => by cases z)⟩
  | dlk h r => exact ⟨_, h, (fun _ z => by cases z), (fun _ _ z => by unfold LamX.CodeO at z; cases z), (fun _ z => by cases z)⟩
  | tdc t c1 c2 c3 h r => exact ⟨_, h, c2, c1, c3⟩
  | obj h h2 g r => exact ⟨_, h, (fun _ z => by cases z), (fun _ _ z => by unfold LamX.CodeO at z; cases z), (fun _ z => by cases z)⟩
  | gone h c1 c2 c3 => exact ⟨_, h, c1, c2, c3⟩
/-- the store stands so -/
structure StoOk (K : Fg) (T : Tb) (G : Wd) (H : Hp) (μ : Sto) : Prop where
  len : G.m.length = μ.length
  nd : G.m.Nodup
  at_ : ∀ (n : Nat) a u, G.m[n]? = some a → μ[n]? = some u → G a = none ∧ CellAt K T G H a u
theorem StoOk.one {μ : Sto} (s : StoOk K T G H μ) {a : Addr} (h : a ∈ G.m) : ∃ (n : Nat) (u : Cell), G.m[n]? = some a ∧ μ[n]? = some u := by
  obtain ⟨n, e⟩ := List.getElem?_of_mem h
  have hn : n < μ.length := by rw [← s.len]; exact (List.getElem?_eq_some_iff.mp e).1
  exact ⟨n, μ[n], e, List.getElem?_eq_getElem hn⟩
theorem StoOk.there {μ : Sto} (s : StoOk K T G H μ) {a : Addr} (h : a ∈ G.m) : G a = none ∧ ∃ o, H a = Option.some o ∧ (∀ ps, o ≠ .tbl ps) ∧ (∀ x q, o ≠ LamX.CodeO x q) ∧ (∀ x, o ≠ .own x) := by
  obtain ⟨n, u, e1, e2⟩ := s.one h
  exact ⟨(s.at_ n a u e1 e2).1, (s.at_ n a u e1 e2).2.here⟩
theorem StoOk.keep {μ : Sto} (s : StoOk K T G H μ) (l : Le G G') (hm : G'.m = G.m) (n : ∀ b, G b = none → (b ∈ G.m ∨ ∃ x, H b = Option.some (.own x)) → H b ≠ none → G' b = none) (k : ∀ b o, H b = Option.some o → (b ∈ G.m ∨ ∃ x, o = .own x) → H' b = Option.some o) : StoOk K T G' H' μ := by
  refine ⟨by rw [hm]; exact s.len, by rw [hm]; exact s.nd, fun i a u e1 e2 => ?_⟩
  rw [hm] at e1
  obtain ⟨g, c⟩ := s.at_ i a u e1 e2
  obtain ⟨o, h, _⟩ := c.here
  exact ⟨n a g (.inl (List.mem_of_getElem? e1)) (by rw [h]; exact fun z => by cases z), c.keep l (fun b x g e => n b g (.inr ⟨x, e⟩) (by rw [e]; exact fun z => by cases z)) fun b o e z => k b o e (z.imp (fun y => by rw [y]; exact List.mem_of_getElem? e1) id)⟩
end
/-- the addresses that the slots own -/
def owns (σ : St) (ρ : MSt) : List Addr := (List.range ρ.length).filterMap fun (i : Nat) => match (ρ[i]? : Option (Option S)), (σ[i]? : Option (Option V)) with
  | some (some s), some (some (V.ref a)) => if S.own s = true then some a else none
  | _, _ => none
theorem mem_owns {σ : St} {ρ : MSt} {a : Addr} : a ∈ owns σ ρ ↔ ∃ (i : Nat) (s : S), ρ[i]? = some (some s) ∧ s.own = true ∧ σ[i]? = some (some (.ref a)) := by
  unfold owns
  rw [List.mem_filterMap]
  constructor
  · rintro ⟨i, _, e⟩
    split at e
    · rename_i s b h1 h2
      split at e
      · rename_i h3
        cases e
        exact ⟨i, s, h1, h3, h2⟩
      · cases e
    · cases e
  · rintro ⟨i, s, h1, h2, h3⟩
    exact ⟨i, List.mem_range.mpr (List.getElem?_eq_some_iff.mp h1).1, by rw [h1, h3]; simp [h2]⟩
/-- what stood at the entry, what may be changed of it, the tables -/
structure Gh where
  H0 : Hp
  G0 : Wd
  M : List Addr
  da : Addr
  al : Bool := false
def StJ (K : Fg) (T : Tb) (c : Gh) (G : Wd) (H : Hp) (σ : St) (ρ : MSt) : Prop := ∀ b μ, ρ[σ.length]? = some (some (.sto b μ)) →
  StoOk K T G H μ ∧ (b = true → c.al = true ∧ ∀ a ∈ G.m, c.H0 a = none ∨ a ∈ c.M)
structure MJ (c : Gh) (G : Wd) (H : Hp) (σ : St) (ρ : MSt) : Prop where
  hr : ∀ a ∈ G.m, ∃ o, H a = some o
  ow : ∀ a ∈ G.m, a ∉ owns σ ρ
  gr : ∀ a ∈ G.m, a ∈ c.G0.m ∨ c.H0 a = none ∨ a ∈ c.M
  nm : c.al = false → G.m = c.G0.m
structure J (K : Fg) (T : Tb) (c : Gh) (G : Wd) (H : Hp) (σ : St) (ρ : MSt) : Prop where
  sub : Lh G H
  g0 : Le c.G0 G
  gn : ∀ a, c.G0 a = none → c.H0 a ≠ none → a ∉ c.M → G a = none
  fr : ∀ a o, c.H0 a = some o → a ∉ c.M → (∀ ps, o ≠ .tbl ps) → H a = some o
  ft : ∀ a ps, c.H0 a = some (.tbl ps) → ∃ ps', H a = some (.tbl ps')
  len : ρ.length = σ.length + 1
  sl' : ∀ (i : Nat) s, ρ[i]? = some (some s) → s.isSto = false → ∃ v, σ[i]? = some (some v) ∧ RS K c.da G H s v
  ow : ∀ (i : Nat) s a, ρ[i]? = some (some s) → s.own = true → σ[i]? = some (some (.ref a)) → c.H0 a = none ∨ a ∈ c.M
  ap : ∀ (i j : Nat) s t a b, ρ[i]? = some (some s) → ρ[j]? = some (some t) → s.own = true → t.own = true → σ[i]? = some (some (.ref a)) → σ[j]? = some (some (.ref b)) → i ≠ j → a ≠ b
  tb : LamX.Tabs T H
  nt : ∀ a ps, G a ≠ some (.tbl ps)
  st : StJ K T c G H σ ρ
  mj : MJ c G H σ ρ
theorem S.own_sto {s : S} (h : s.own = true) : s.isSto = false := by cases s <;> first | rfl | cases h
section
variable {K : Fg} {T : Tb} {c : Gh} {G G' : Wd} {H H' : Hp} {σ : St} {ρ : MSt}
theorem J.sl (j : J K T c G H σ ρ) (i : Nat) (s : S) (h : ρ[i]? = some (some s)) (ns : s.isSto = false := by rfl) : ∃ v, σ[i]? = some (some v) ∧ RS K c.da G H s v := j.sl' i s h ns
theorem J.subH (j : J K T c G H σ ρ) : Sub G H := j.sub.sub
theorem J.fresh (j : J K T c G H σ ρ) {p : Addr} (h : H p = none) : G p = none := by
  cases e : G p with
  | none => rfl
  | some o =>
    have q := j.sub p o e
    rw [h] at q; cases q
theorem J.H0none (j : J K T c G H σ ρ) {a : Addr} (h : H a = none) : c.H0 a = none ∨ a ∈ c.M := by
  cases e : c.H0 a with
  | none => exact .inl rfl
  | some o =>
    by_cases m : a ∈ c.M
    · exact .inr m
    · cases o with
      | tbl ps => obtain ⟨_, q⟩ := j.ft a ps e; rw [h] at q; cases q
      | _ => have q := j.fr a _ e m (fun _ z => by cases z); rw [h] at q; cases q
theorem J.freshM (j : J K T c G H σ ρ) {a : Addr} (h : H a = none) : a ∉ G.m := fun m => by
  obtain ⟨o, q⟩ := j.mj.hr a m
  rw [h] at q; cases q
theorem MJ.owns {σ2 : St} {ρ2 : MSt} (q : MJ c G H σ ρ) (h : ∀ a, a ∈ owns σ2 ρ2 → a ∈ owns σ ρ) : MJ c G H σ2 ρ2 := ⟨q.hr, fun a m n => q.ow a m (h a n), q.gr, q.nm⟩
theorem RS.grow {da : Addr} (h : H p = none) (hG : G p = none) {o : HO} : ∀ {s : S} {v : V}, RS K da G H s v → RS K da (wupd G p o) (upd H p o) s v
  | .d x, v, r => Dq.le r (Le.upd hG)
  | .ol xs, v, ⟨a, vs, e, g, hh, r⟩ => ⟨a, vs, e, by show upd G.hp p o a = none; rw [upd_ne (ne_of_none hh h)]; exact g, by rw [upd_ne (ne_of_none hh h)]; exact hh, r.le (Le.upd hG)⟩
  | .od xs, v, ⟨a, vs, e, g, hh, r⟩ => ⟨a, vs, e, by show upd G.hp p o a = none; rw [upd_ne (ne_of_none hh h)]; exact g, by rw [upd_ne (ne_of_none hh h)]; exact hh, r.le (Le.upd hG)⟩
  | .dc xs, v, ⟨e0, a, vs, e, g, hh, r⟩ => ⟨e0, a, vs, e, by show upd G.hp p o a = none; rw [upd_ne (ne_of_none hh h)]; exact g, by rw [upd_ne (ne_of_none hh h)]; exact hh, r.le (Le.upd hG)⟩
/-- a new still object -/
theorem J.grow (j : J K T c G H σ ρ) {p : Addr} {o : HO} (h : H p = none) (nt : ∀ ps, o ≠ .tbl ps := by intro _ z; cases z) : J K T c (wupd G p o) (upd H p o) σ ρ := by
  have hG := j.fresh h
  refine ⟨fun a u e => ?_, j.g0.trans (Le.upd hG), fun a g0 h0 m => ?_, fun a u e m t => ?_, fun a ps e => ?_, j.len, fun i s e ns => ?_, j.ow, j.ap, j.tb.ext fun b u e => by rw [upd_ne (ne_of_none e h)]; exact e, fun a ps z => by
    by_cases y : a = p
    · rw [y] at z; have z : upd G.hp p o p = _ := z; rw [upd_same] at z; exact nt ps (Option.some.inj z)
    · have z : upd G.hp p o a = _ := z; rw [upd_ne y] at z; exact j.nt a ps z, fun b μ e => ?_, ?_⟩
  · have e : upd G.hp p o a = some u := e
    by_cases z : a = p
    · subst z; rw [upd_same] at e ⊢; exact e
    · rw [upd_ne z] at e ⊢; exact j.sub a u e
  · show upd G.hp p o a = none
    by_cases z : a = p
    · subst z
      rcases j.H0none h with q | q
      · exact absurd q h0
      · exact absurd q m
    · rw [upd_ne z]; exact j.gn a g0 h0 m
  · rw [upd_ne (ne_of_none (j.fr a u e m t) h)]; exact j.fr a u e m t
  · obtain ⟨ps', q⟩ := j.ft a ps e
    exact ⟨ps', by rw [upd_ne (ne_of_none q h)]; exact q⟩
  · obtain ⟨v, e1, r⟩ := j.sl i s e ns
    exact ⟨v, e1, r.grow h hG⟩
  · obtain ⟨s1, s3⟩ := j.st b μ e
    refine ⟨s1.keep (Le.upd hG) rfl (fun b g _ hb => ?_) fun b u e _ => by rw [upd_ne (ne_of_none e h)]; exact e, s3⟩
    show upd G.hp p o b = none
    rw [upd_ne (fun z => hb (by rw [z]; exact h))]; exact g
  · exact ⟨fun a m => (j.mj.hr a m).imp fun u e => by rw [upd_ne (ne_of_none e h)]; exact e, j.mj.ow, j.mj.gr, j.mj.nm⟩
theorem RS.heap {da : Addr} (k : ∀ a o, H a = some o → (∀ ps, o ≠ .tbl ps) → H' a = some o) : ∀ {s : S} {v : V}, RS K da G H s v → RS K da G H' s v
  | .d x, v, r => r
  | .ol xs, v, ⟨a, vs, e, g, hh, r⟩ => ⟨a, vs, e, g, k _ _ hh (fun _ z => by cases z), r⟩
  | .od xs, v, ⟨a, vs, e, g, hh, r⟩ => ⟨a, vs, e, g, k _ _ hh (fun _ z => by cases z), r⟩
  | .dc xs, v, ⟨e0, a, vs, e, g, hh, r⟩ => ⟨e0, a, vs, e, g, k _ _ hh (fun _ z => by cases z), r⟩
theorem rd_heap (k : ∀ a o, H a = some o → (∀ ps, o ≠ .tbl ps) → H' a = some o) (hG : ∀ ps, u ≠ .tbl ps) (r : Rd H a u) : Rd H' a u := by
  rcases r with r | ⟨ob, r⟩
  · exact .inl (k _ _ r hG)
  · exact .inr ⟨ob, k _ _ r (fun _ z => by cases z)⟩
theorem owns_sub {σ2 : St} {ρ2 : MSt} (h : ∀ (i : Nat) (s : S), ρ2[i]? = some (some s) → s.own = true → ρ[i]? = some (some s) ∧ σ[i]? = σ2[i]?) {a : Addr} (m : a ∈ owns σ2 ρ2) : a ∈ owns σ ρ := by
  obtain ⟨i, s, e1, e2, e3⟩ := mem_owns.mp m
  obtain ⟨q1, q2⟩ := h i s e1 e2
  exact mem_owns.mpr ⟨i, s, q1, e2, by rw [q2]; exact e3⟩
/-- the store: a name holds data -/
theorem J.set (j : J K T c G H σ ρ) {i : Nat} {v : V} {d : D} (hi : i + 1 < ρ.length) (r : Dq K G v d) : J K T c G H (σ.set i (some v)) (ρ.set i (some (.d d))) := by
  have hs : i < σ.length := by have := j.len; omega
  have hi' : i < ρ.length := by omega
  have at_ : ∀ {k : Nat} {s : S}, (ρ.set i (some (.d d)))[k]? = some (some s) → (k = i ∧ s = .d d) ∨ (k ≠ i ∧ ρ[k]? = some (some s)) := fun {k s} e => by
    by_cases z : k = i
    · subst z; rw [List.getElem?_set_self hi'] at e; cases e; exact .inl ⟨rfl, rfl⟩
    · rw [List.getElem?_set_ne (Ne.symm z)] at e; exact .inr ⟨z, e⟩
  refine ⟨j.sub, j.g0, j.gn, j.fr, j.ft, by simp [j.len], fun k s e ns => ?_, fun k s a e o e2 => ?_, fun k l s t a b e1 e2 o1 o2 f1 f2 n => ?_, j.tb, j.nt, fun b μ e => ?_, j.mj.owns fun a n => owns_sub (fun k s e o => ?_) n⟩
  · rcases at_ e with ⟨rfl, rfl⟩ | ⟨z, e⟩
    · exact ⟨v, List.getElem?_set_self hs, r⟩
    · obtain ⟨w, h1, h2⟩ := j.sl k s e ns
      exact ⟨w, by rw [List.getElem?_set_ne (Ne.symm z)]; exact h1, h2⟩
  · rcases at_ e with ⟨rfl, rfl⟩ | ⟨z, e⟩
    · cases o
    · rw [List.getElem?_set_ne (Ne.symm z)] at e2; exact j.ow k s a e o e2
  · rcases at_ e1 with ⟨rfl, rfl⟩ | ⟨z, e1⟩
    · cases o1
    · rcases at_ e2 with ⟨rfl, rfl⟩ | ⟨z2, e2⟩
      · cases o2
      · rw [List.getElem?_set_ne (Ne.symm z)] at f1
        rw [List.getElem?_set_ne (Ne.symm z2)] at f2
        exact j.ap k l s t a b e1 e2 o1 o2 f1 f2 n
  · rw [List.length_set] at e
    rw [List.getElem?_set_ne (by omega)] at e
    exact j.st b μ e
  · rcases at_ e with ⟨rfl, rfl⟩ | ⟨z, e⟩
    · cases o
    · exact ⟨e, by rw [List.getElem?_set_ne (Ne.symm z)]⟩
/-- the ghost, taken anew here -/
def here (c : Gh) (G : Wd) (H : Hp) (σ : St) (ρ : MSt) : Gh := ⟨H, G, owns σ ρ ++ (match ρ[σ.length]? with
  | some (some (.sto true _)) => G.m
  | _ => []), c.da, c.al⟩
theorem mem_here {a : Addr} (h : a ∈ (here c G H σ ρ).M) : a ∈ owns σ ρ ∨ (∃ μ, ρ[σ.length]? = some (some (.sto true μ))) ∧ a ∈ G.m := by
  rcases List.mem_append.mp h with h | h
  · exact .inl h
  · split at h
    · rename_i μ e; exact .inr ⟨⟨μ, e⟩, h⟩
    · cases h
theorem J.here (j : J K T c G H σ ρ) : J K T (here c G H σ ρ) G H σ ρ :=
  ⟨j.sub, Le.refl G, fun _ e _ _ => e, fun _ _ e _ _ => e, fun _ ps e => ⟨ps, e⟩, j.len, j.sl', fun i s a e o e2 => .inr (List.mem_append_left _ (mem_owns.mpr ⟨i, s, e, o, e2⟩)), j.ap, j.tb, j.nt, fun b μ e => by
    obtain ⟨s1, s3⟩ := j.st b μ e
    refine ⟨s1, fun hb => ⟨(s3 hb).1, fun a m => .inr (List.mem_append_right _ ?_)⟩⟩
    subst hb
    rw [e]; exact m, ⟨j.mj.hr, j.mj.ow, fun a m => .inl m, fun _ => rfl⟩⟩
theorem J.hereM (j : J K T c G H σ ρ) {a : Addr} (h : a ∈ (Mi.here c G H σ ρ).M) : c.H0 a = none ∨ a ∈ c.M := by
  rcases mem_here h with h | ⟨⟨μ, e⟩, m⟩
  · obtain ⟨i, s, e1, e2, e3⟩ := mem_owns.mp h
    exact j.ow i s a e1 e2 e3
  · exact ((j.st true μ e).2 rfl).2 a m
theorem J.back {G2 : Wd} {H2 : Hp} {σ2 : St} {ρ2 : MSt} (j : J K T c G H σ ρ) (j2 : J K T (Mi.here c G H σ ρ) G2 H2 σ2 ρ2) : J K T c G2 H2 σ2 ρ2 := by
  have own : ∀ a, a ∈ (Mi.here c G H σ ρ).M → c.H0 a = none ∨ a ∈ c.M := fun a h => j.hereM h
  have per : ∀ a, (Mi.here c G H σ ρ).H0 a = none ∨ a ∈ (Mi.here c G H σ ρ).M → c.H0 a = none ∨ a ∈ c.M := fun a z => by
    rcases z with z | z
    · exact j.H0none z
    · exact own a z
  refine ⟨j2.sub, j.g0.trans j2.g0, fun a g0 h0 m => j2.gn a (j.gn a g0 h0 m) (fun z => (j.H0none z).elim h0 m) (fun h => (own a h).elim h0 m), fun a o e m t => j2.fr a o (j.fr a o e m t) (fun h => ?_) t, fun a ps e => ?_, j2.len, j2.sl', fun i s a e o e2 => per a (j2.ow i s a e o e2), j2.ap, j2.tb, j2.nt, fun b μ e => ?_, ⟨j2.mj.hr, j2.mj.ow, fun a m => ?_, fun h => (j2.mj.nm h).trans (j.mj.nm h)⟩⟩
  · rcases own a h with z | z
    · rw [e] at z; cases z
    · exact m z
  · obtain ⟨ps', q⟩ := j.ft a ps e
    exact j2.ft a ps' q
  · obtain ⟨s1, s3⟩ := j2.st b μ e
    exact ⟨s1, fun hb => ⟨(s3 hb).1, fun a m => per a ((s3 hb).2 a m)⟩⟩
  · rcases j2.mj.gr a m with z | z
    · exact j.mj.gr a z
    · exact .inr (per a z)
/-- an object beside the slots is changed -/
theorem J.write (j : J K T c G H σ ρ) {a : Addr} {o o' : HO} (hG : G a = none) (hH : H a = some o) (ht : ∀ ps, o ≠ .tbl ps) (hc : ∀ x q, o ≠ LamX.CodeO x q) (h0 : c.H0 a = none ∨ a ∈ c.M) (no : a ∉ owns σ ρ) (nm : a ∉ G.m) (hw : ∀ x, o ≠ .own x := by intro _ z; cases z) : J K T c G (upd H a o') σ ρ := by
  have tb : ∀ b u, H b = some u → u ≠ o → upd H a o' b = some u := fun b u e n => by
    rw [upd_ne (fun z => n (by rw [z, hH] at e; exact (Option.some.inj e).symm))]; exact e
  refine ⟨fun b u e => ?_, j.g0, j.gn, fun b u e m t => ?_, fun b ps e => ?_, j.len, fun i s e ns => ?_, j.ow, j.ap, fun p hp => ?_, j.nt, fun b μ e => ?_, ⟨fun b m => (j.mj.hr b m).imp fun u e => by rw [upd_ne (show b ≠ a from fun z => nm (by rw [← z]; exact m))]; exact e, j.mj.ow, j.mj.gr, j.mj.nm⟩⟩
  · rw [upd_ne (ne_of_none e hG)]; exact j.sub b u e
  · have q := j.fr b u e m t
    rw [upd_ne (fun z => by rcases h0 with y | y; (rw [← z, e] at y; cases y); exact m (z ▸ y))]; exact q
  · obtain ⟨ps', q⟩ := j.ft b ps e
    exact ⟨ps', tb b _ q (fun z => ht _ z.symm)⟩
  · obtain ⟨v, e1, r⟩ := j.sl i s e ns
    refine ⟨v, e1, ?_⟩
    cases s with
    | d x => exact r
    | ol xs =>
      obtain ⟨b, vs, e2, g, hh, r⟩ := r
      subst e2
      exact ⟨b, vs, rfl, g, by rw [upd_ne (show b ≠ a from fun z => no (mem_owns.mpr ⟨i, _, e, rfl, by rw [← z]; exact e1⟩))]; exact hh, r⟩
    | od xs =>
      obtain ⟨b, vs, e2, g, hh, r⟩ := r
      subst e2
      exact ⟨b, vs, rfl, g, by rw [upd_ne (show b ≠ a from fun z => no (mem_owns.mpr ⟨i, _, e, rfl, by rw [← z]; exact e1⟩))]; exact hh, r⟩
    | dc xs =>
      obtain ⟨e0, b, vs, e2, g, hh, r⟩ := r
      subst e2
      exact ⟨e0, b, vs, rfl, g, by rw [upd_ne (show b ≠ a from fun z => no (mem_owns.mpr ⟨i, _, e, rfl, by rw [← z]; exact e1⟩))]; exact hh, r⟩
    | sto b μ => cases ns
  · obtain ⟨ps, h1, h2, h3⟩ := j.tb p hp
    refine ⟨ps, tb _ _ h1 (fun z => ht _ z.symm), h2, fun pos cv hcv => ?_⟩
    obtain ⟨x, e1, e2⟩ := h3 pos cv hcv
    exact ⟨x, e1, tb _ _ e2 (fun z => hc _ _ z.symm)⟩
  · obtain ⟨s1, s3⟩ := j.st b μ e
    refine ⟨s1.keep (Le.refl G) rfl (fun _ g _ _ => g) fun d u eu z => ?_, s3⟩
    rcases z with z | ⟨x, z⟩
    · rw [upd_ne (show d ≠ a from fun y => nm (by rw [← y]; exact z))]; exact eu
    · exact tb d u eu fun y => hw x (by rw [← y, z])
/-- an object beside the slots stands still from now on -/
theorem J.still (j : J K T c G H σ ρ) {a : Addr} {o : HO} (hG : G a = none) (hH : H a = some o) (h0 : c.H0 a = none ∨ a ∈ c.M) (no : a ∉ owns σ ρ) (nm : a ∉ G.m) (nt : ∀ ps, o ≠ .tbl ps := by intro _ z; cases z) (hw : ∀ x, o ≠ .own x := by intro _ z; cases z) : J K T c (wupd G a o) H σ ρ := by
  refine ⟨fun b u e => ?_, j.g0.trans (Le.upd hG), fun b g0 hh m => ?_, j.fr, j.ft, j.len, fun i s e ns => ?_, j.ow, j.ap, j.tb, fun b ps z => by
    have z : upd G.hp a o b = _ := z
    by_cases y : b = a
    · rw [y, upd_same] at z; exact nt ps (Option.some.inj z)
    · rw [upd_ne y] at z; exact j.nt b ps z, fun b μ e => ?_, ⟨j.mj.hr, j.mj.ow, j.mj.gr, j.mj.nm⟩⟩
  · have e : upd G.hp a o b = some u := e
    by_cases z : b = a
    · subst z; rw [upd_same] at e; rw [hH]; exact e
    · rw [upd_ne z] at e; exact j.sub b u e
  · show upd G.hp a o b = none
    by_cases z : b = a
    · subst z; exact (h0.elim hh m).elim
    · rw [upd_ne z]; exact j.gn b g0 hh m
  · obtain ⟨v, e1, r⟩ := j.sl i s e ns
    refine ⟨v, e1, ?_⟩
    have g' : ∀ {b : Addr}, s.own = true → v = .ref b → G b = none → upd G.hp a o b = none := fun {b} o' ev g => by
      subst ev
      rw [upd_ne (show b ≠ a from fun z => no (mem_owns.mpr ⟨i, _, e, o', by rw [← z]; exact e1⟩))]; exact g
    cases s with
    | d x => exact Dq.le r (Le.upd hG)
    | ol xs =>
      obtain ⟨b, vs, e2, g, hh, r⟩ := r
      exact ⟨b, vs, e2, g' rfl e2 g, hh, r.le (Le.upd hG)⟩
    | od xs =>
      obtain ⟨b, vs, e2, g, hh, r⟩ := r
      exact ⟨b, vs, e2, g' rfl e2 g, hh, r.le (Le.upd hG)⟩
    | dc xs =>
      obtain ⟨e0, b, vs, e2, g, hh, r⟩ := r
      exact ⟨e0, b, vs, e2, g' rfl e2 g, hh, r.le (Le.upd hG)⟩
    | sto b μ => cases ns
  · obtain ⟨s1, s3⟩ := j.st b μ e
    refine ⟨⟨s1.len, s1.nd, fun n d u e1 e2 => ?_⟩, s3⟩
    obtain ⟨g, ct⟩ := s1.at_ n d u e1 e2
    have nd : d ≠ a := fun z => nm (by rw [← z]; exact List.mem_of_getElem? e1)
    refine ⟨by show upd G.hp a o d = none; rw [upd_ne nd]; exact g, ?_⟩
    cases ct with
    | lst h r => exact .lst h (r.le (Le.upd hG))
    | dic h r => exact .dic h (r.le (Le.upd hG))
    | dlk h r => exact .dlk h (r.le (Le.upd hG))
    | tdc t c1 c2 c3 h r => exact .tdc t c1 c2 c3 h (r.le (Le.upd hG))
    | obj h h2 g2 r =>
      refine .obj h h2 ?_ (r.le (Le.upd hG))
      show upd G.hp a o _ = none
      rw [upd_ne (fun z => by rw [z, hH] at h2; exact hw _ (Option.some.inj h2))]; exact g2
    | gone h c1 c2 c3 => exact .gone h c1 c2 c3
/-- a new object beside the slots, not still -/
theorem J.aside (j : J K T c G H σ ρ) {a : Addr} {o : HO} (hH : H a = none) : J K T c G (upd H a o) σ ρ := by
  have up : ∀ b u, H b = some u → upd H a o b = some u := fun b u e => by rw [upd_ne (ne_of_none e hH)]; exact e
  refine ⟨fun b u e => up b u (j.sub b u e), j.g0, j.gn, fun b u e m t => up b u (j.fr b u e m t), fun b ps e => ?_, j.len, fun i s e ns => ?_, j.ow, j.ap, j.tb.ext up, j.nt, fun b μ e => ?_, ⟨fun b m => (j.mj.hr b m).imp fun u e => up b u e, j.mj.ow, j.mj.gr, j.mj.nm⟩⟩
  · obtain ⟨ps', q⟩ := j.ft b ps e
    exact ⟨ps', up _ _ q⟩
  · obtain ⟨v, e1, r⟩ := j.sl i s e ns
    exact ⟨v, e1, r.heap fun b u e _ => up b u e⟩
  · obtain ⟨s1, s3⟩ := j.st b μ e
    exact ⟨s1.keep (Le.refl G) rfl (fun _ g _ _ => g) fun d u eu _ => up d u eu, s3⟩
theorem J.notOwn (j : J K T c G H σ ρ) {a : Addr} (h : H a = none) : a ∉ owns σ ρ := fun m => by
  obtain ⟨i, s, e1, e2, e3⟩ := mem_owns.mp m
  obtain ⟨v, q, r⟩ := j.sl i s e1 (S.own_sto e2)
  rw [e3] at q
  cases q
  cases s with
  | d x => cases e2
  | ol xs => obtain ⟨b, vs, e, _, hh, _⟩ := r; cases e; rw [h] at hh; cases hh
  | od xs => obtain ⟨b, vs, e, _, hh, _⟩ := r; cases e; rw [h] at hh; cases hh
  | dc xs => obtain ⟨_, b, vs, e, _, hh, _⟩ := r; cases e; rw [h] at hh; cases hh
  | sto b μ => cases e2
theorem not_here {a : Addr} (no : a ∉ owns σ ρ ∧ a ∉ G.m) : a ∉ (Mi.here c G H σ ρ).M := fun h => by
  rcases mem_here h with h | ⟨_, h⟩
  · exact no.1 h
  · exact no.2 h
theorem J.apart (j : J K T c G H σ ρ) {a : Addr} (h0 : c.H0 a ≠ none) (nM : a ∉ c.M) (nm : a ∉ c.G0.m) : a ∉ owns σ ρ ∧ a ∉ G.m := by
  refine ⟨fun m => ?_, fun m => ?_⟩
  · obtain ⟨k, s, e1, e2, e3⟩ := mem_owns.mp m
    exact (j.ow k s a e1 e2 e3).elim h0 nM
  · exact (j.mj.gr a m).elim nm fun z => z.elim h0 nM
/-- names forgotten -/
def wipeM (ρ : MSt) : List Nat → MSt
  | [] => ρ
  | v :: vs => (wipeM ρ vs).set v none
theorem wipeM_length (ρ : MSt) : ∀ vs : List Nat, (wipeM ρ vs).length = ρ.length
  | [] => rfl
  | v :: vs => by unfold wipeM; rw [List.length_set, wipeM_length ρ vs]
theorem J.drop1 (j : J K T c G H σ ρ) (i : Nat) : J K T c G H (σ.set i none) (ρ.set i none) := by
  have at_ : ∀ {k : Nat} {s : S}, (ρ.set i none)[k]? = some (some s) → k ≠ i ∧ ρ[k]? = some (some s) := fun {k s} e => by
    by_cases z : k = i
    · subst z
      by_cases hk : k < ρ.length
      · rw [List.getElem?_set_self hk] at e; cases e
      · rw [List.getElem?_eq_none (by simpa using hk)] at e; cases e
    · rw [List.getElem?_set_ne (Ne.symm z)] at e; exact ⟨z, e⟩
  refine ⟨j.sub, j.g0, j.gn, j.fr, j.ft, by simp [j.len], fun k s e ns => ?_, fun k s a e o e2 => ?_, fun k l s t a b e1 e2 o1 o2 f1 f2 n => ?_, j.tb, j.nt, fun b μ e => ?_, j.mj.owns fun a n => owns_sub (fun k s e o => ?_) n⟩
  · obtain ⟨z, e⟩ := at_ e
    obtain ⟨w, h1, h2⟩ := j.sl k s e ns
    exact ⟨w, by rw [List.getElem?_set_ne (Ne.symm z)]; exact h1, h2⟩
  · obtain ⟨z, e⟩ := at_ e
    rw [List.getElem?_set_ne (Ne.symm z)] at e2; exact j.ow k s a e o e2
  · obtain ⟨z, e1⟩ := at_ e1
    obtain ⟨z2, e2⟩ := at_ e2
    rw [List.getElem?_set_ne (Ne.symm z)] at f1
    rw [List.getElem?_set_ne (Ne.symm z2)] at f2
    exact j.ap k l s t a b e1 e2 o1 o2 f1 f2 n
  · rw [List.length_set] at e
    obtain ⟨z, e⟩ := at_ e
    exact j.st b μ e
  · obtain ⟨z, e⟩ := at_ e
    exact ⟨e, by rw [List.getElem?_set_ne (Ne.symm z)]⟩
theorem J.wipe (j : J K T c G H σ ρ) : ∀ vs : List Nat, J K T c G H (wipe σ vs) (wipeM ρ vs)
  | [] => j
  | v :: vs => (J.wipe j vs).drop1 v
/-- other slots over the same heap -/
theorem J.refit (j : J K T c G H σ ρ) {σ2 : St} {ρ2 : MSt} (hl : ρ2.length = σ2.length + 1) (hσ : σ2.length = σ.length) (h : ∀ (i : Nat) s, ρ2[i]? = some (some s) → (ρ[i]? = some (some s) ∧ σ[i]? = σ2[i]?) ∨ ∃ x v, s = .d x ∧ σ2[i]? = some (some v) ∧ Dq K G v x) : J K T c G H σ2 ρ2 := by
  have own : ∀ {i : Nat} {s : S}, ρ2[i]? = some (some s) → s.own = true → ρ[i]? = some (some s) ∧ σ[i]? = σ2[i]? := fun {i s} e o => by
    rcases h i s e with q | ⟨x, v, rfl, _⟩
    · exact q
    · cases o
  refine ⟨j.sub, j.g0, j.gn, j.fr, j.ft, hl, fun i s e ns => ?_, fun i s a e o e2 => ?_, fun k l s t a b e1 e2 o1 o2 f1 f2 n => ?_, j.tb, j.nt, fun b μ e => ?_, j.mj.owns fun a n => owns_sub (fun k s e o => own e o) n⟩
  · rcases h i s e with ⟨q1, q2⟩ | ⟨x, v, rfl, q1, q2⟩
    · obtain ⟨v, e1, r⟩ := j.sl i s q1 ns
      exact ⟨v, by rw [← q2]; exact e1, r⟩
    · exact ⟨v, q1, q2⟩
  · obtain ⟨q1, q2⟩ := own e o
    exact j.ow i s a q1 o (by rw [q2]; exact e2)
  · obtain ⟨q1, q2⟩ := own e1 o1
    obtain ⟨q3, q4⟩ := own e2 o2
    exact j.ap k l s t a b q1 q3 o1 o2 (by rw [q2]; exact f1) (by rw [q4]; exact f2) n
  · rcases h _ _ e with ⟨q1, q2⟩ | ⟨x, v, z, _⟩
    · rw [hσ] at q1
      exact j.st b μ q1
    · cases z
end
end Mi
set_option Elab.async false
set_option linter.all false
set_option maxRecDepth 100000
set_option maxHeartbeats 4000000
namespace Mi
open PySem L2
/-! ### judgements in mirror form -/
def IsX (K : Fg) (H : Hp) (e : Exn) (cls : Value) (dx : Option Addr) : Prop := cls = .ref (He.ga K e.cls) ∧ match e.lacks with
  | none => dx = none
  | some n => ∃ d, dx = some d ∧ H d = some (.xd [(("lacks" : Str), V.int n)])
section
variable (K : Fg) (T : Tb) (c : Gh) (W : WX)
def pX {α β : Type} (rel : Wd → β → α → Prop) (σ : St) (G : Wd) (Q : β → Hp → Prop) : Out α → Prop
  | .ok a ρ' => ∀ b G' H', Le G G' → J K T c G' H' σ ρ' → rel G' b a → Q b H'
  | .exn e ρ' => ∀ cls dx G' H', Le G G' → J K T c G' H' σ ρ' → IsX K H' e cls dx → W cls dx σ H'
  | .stuck => False
def mX {α β : Type} (rel : Wd → β → α → Prop) (f : MM α) : St → Hp → (β → Hp → Prop) → Prop := fun σ H Q => ∃ G ρ, J K T c G H σ ρ ∧ pX K T c W rel σ G Q (f ρ)
abbrev relD : Wd → V → D → Prop := fun G v d => Dq K G v d
abbrev relB : Wd → Bool → Bool → Prop := fun _ b k => b = k
abbrev relA : Wd → List V → List D → Prop := fun G vs ds => DqAll K G vs ds
def mE (f : MM D) : TE := mX K T c W (relD K) f
def mT (f : MM Bool) : TT := mX K T c W relB f
def mA (f : MM (List D)) : TA := mX K T c W (relA K) f
end
section
variable {K : Fg} {T : Tb} {c : Gh} {W : WX} {α β γ δ : Type} {rel : Wd → β → α → Prop} {rel' : Wd → δ → γ → Prop} {σ : St} {ρ : MSt} {G G1 : Wd} {H : Hp} {Q : δ → Hp → Prop} {R : β → Hp → Prop} {o : Out γ}
theorem pX.le (l : Le G G1) (h : pX K T c W rel' σ G Q o) : pX K T c W rel' σ G1 Q o := by
  cases o with
  | ok a ρ' => exact fun b G' H' l' => h b G' H' (l.trans l')
  | exn e ρ' => exact fun cls dx G' H' l' => h cls dx G' H' (l.trans l')
  | stuck => exact h
theorem pX_bind {f : MM α} {g : α → MM γ} (j : J K T c G H σ ρ) (p : pX K T c W rel' σ G Q (MM.bind f g ρ))
    (k : ∀ a b ρ1 G1 H1, Le G G1 → J K T c G1 H1 σ ρ1 → rel G1 b a → pX K T c W rel' σ G1 Q (g a ρ1) → R b H1) : mX K T c W rel f σ H R := by
  refine ⟨G, ρ, j, ?_⟩
  unfold MM.bind at p
  cases e : f ρ with
  | ok a ρ1 =>
    rw [e] at p
    exact fun b G1 H1 l j1 r => k a b ρ1 G1 H1 l j1 r (pX.le l p)
  | exn x ρ1 =>
    rw [e] at p
    exact p
  | stuck =>
    rw [e] at p
    exact p
/-- the end of a pure step: the heap as it is -/
theorem pX.here {a : γ} {b : δ} (p : pX K T c W rel' σ G Q (.ok a ρ)) (j : J K T c G H σ ρ) (r : rel' G b a) : Q b H := p b G H (Le.refl G) j r
end
theorem pe_mono {X : Cx} {e : Expr} {t t' : TE} (h : PE X e t) (k : ∀ σ H Q, t' σ H Q → t σ H Q) : PE X e t' := ⟨fun pins s σ H Q I q => h.run pins s σ H Q I (k σ H Q q)⟩
theorem pt_mono {X : Cx} {e : Expr} {t t' : TT} (h : PT X e t) (k : ∀ σ H Q, t' σ H Q → t σ H Q) : PT X e t' := ⟨fun pins s σ H Q I q => h.run pins s σ H Q I (k σ H Q q)⟩
theorem pw_mono {X : Cx} {e : Expr} {t t' : TT} (h : PW X e t) (k : ∀ σ H Q, t' σ H Q → t σ H Q) : PW X e t' := ⟨fun wh pins s σ H Q I q => h.run wh pins s σ H Q I (k σ H Q q)⟩
theorem pa_mono {X : Cx} {e : List Expr} {t t' : TA} (h : PA X e t) (k : ∀ σ H Q, t' σ H Q → t σ H Q) : PA X e t' := ⟨fun pos pins s σ H Q I q => h.run pos pins s σ H Q I (k σ H Q q)⟩
theorem ps_mono {X : Cx} {e : Stmt} {t t' : TS} (h : PS X e t) (k : ∀ D σ H, t' D σ H → t D σ H) : PS X e t' := ⟨fun pins s σ H D I q => h.run pins s σ H D I (k D σ H q)⟩
theorem pss_mono {X : Cx} {e : List Stmt} {t t' : TS} (h : PSs X e t) (k : ∀ D σ H, t' D σ H → t D σ H) : PSs X e t' := ⟨fun pins s σ H D I q => h.run pins s σ H D I (k D σ H q)⟩

/-! ### names, constants -/
def var (i : Nat) : MM D := fun ρ => match ρ[i]? with
  | some (some (.d x)) => .ok x ρ
  | _ => .stuck
section
variable {X : Cx} {T : Tb} {c : Gh} {W : WX} {a b e : Expr} {f f1 f2 : MM D} {pos : Pos}
theorem me_var {i : Nat} {x : Str} (hN : X.N[i]? = some x) (hv : Vis X.env.scope x) (hd : (x == ("__debug__" : Str)) = false := by decide) (hcd : (x == ("__classdict__" : Str)) = false := by decide) : PE X (.Name x pos) (mE X.K T c W (var i)) := by
  refine pe_mono (pe_var hN hv hd hcd) fun σ H Q ⟨G, ρ, j, p⟩ => ?_
  unfold var at p
  split at p
  · rename_i y hy
    obtain ⟨v, e1, r⟩ := j.sl i _ hy
    exact ⟨v, e1, p.here j r⟩
  · exact p.elim
theorem me_const {d : D} {v : V} (h : PE X e (tC v)) (r : ∀ G, Dq X.K G v d) : PE X e (mE X.K T c W (MM.pure d)) :=
  pe_mono h fun σ H Q ⟨G, ρ, j, p⟩ => p.here j (r G)
theorem me_int {i j} : PE X (.Constant (.int i) j pos) (mE X.K T c W (MM.pure (.int i))) := me_const pe_int fun _ => .int i
theorem me_bl {b j} : PE X (.Constant (.bool b) j pos) (mE X.K T c W (MM.pure (.bool b))) := me_const pe_bl fun _ => .bl b
theorem me_non {j} : PE X (.Constant .none j pos) (mE X.K T c W (MM.pure .none)) := me_const pe_non fun _ => .non
theorem me_str {x j} : PE X (.Constant (.str x) j pos) (mE X.K T c W (MM.pure (.str x))) := me_const pe_str fun _ => .str x
/-! ### operators -/
def Op2 (X : Cx) (T : Tb) (c : Gh) (W : WX) (f : Value → Value → Sem Value) (g : D → D → Res D) : Prop :=
  ∃ r : R2, OpR X f r ∧ ∀ σ ρ G H x y d e (Q : VK), J X.K T c G H σ ρ → Dq X.K G x d → Dq X.K G y e → pX X.K T c W (relD X.K) σ G Q (lift (g d e) ρ) → r x y H Q
def op2 (g : D → D → Res D) (f1 f2 : MM D) : MM D := MM.bind f1 fun x => MM.bind f2 fun y => lift (g x y)
theorem op2_to {r : R2} {g : D → D → Res D} (k : ∀ σ ρ G H x y d e (Q : VK), J X.K T c G H σ ρ → Dq X.K G x d → Dq X.K G y e → pX X.K T c W (relD X.K) σ G Q (lift (g d e) ρ) → r x y H Q)
    (σ : St) (H : Hp) (Q : VK) (h : mE X.K T c W (op2 g f1 f2) σ H Q) : tOp r (mE X.K T c W f1) (mE X.K T c W f2) σ H Q := by
  obtain ⟨G, ρ, j, p⟩ := h
  refine pX_bind j p fun x v ρ1 G1 H1 l1 j1 r1 p1 => ?_
  refine pX_bind j1 p1 fun y w ρ2 G2 H2 l2 j2 r2 p2 => ?_
  exact k σ ρ2 G2 H2 v w x y Q j2 (r1.le l2) r2 p2
theorem me_op {op : Operator} {g : D → D → Res D} (ho : Op2 X T c W (binaryOp op) g) (ha : PE X a (mE X.K T c W f1)) (hb : PE X b (mE X.K T c W f2)) : PE X (.BinOp a op b pos) (mE X.K T c W (op2 g f1 f2)) := by
  obtain ⟨r, h, k⟩ := ho
  exact pe_mono (pe_op h ha hb) (op2_to k)
theorem me_cmp {op : CmpOp} {g : D → D → Res D} (ho : Op2 X T c W (compareOp op) g) (ha : PE X a (mE X.K T c W f1)) (hb : PE X b (mE X.K T c W f2)) (hm : behindInMarks op b = false) : PE X (.Compare a [op] [b] pos) (mE X.K T c W (op2 g f1 f2)) := by
  obtain ⟨r, h, k⟩ := ho
  exact pe_mono (pe_cmpR h ha hb hm) (op2_to k)
def toB : D → Res Bool
  | .bool b => .ok b
  | _ => .stuck
def opT (g : D → D → Res D) (f1 f2 : MM D) : MM Bool := MM.bind (op2 g f1 f2) fun x => lift (toB x)
theorem mt_cmp {op : CmpOp} {g : D → D → Res D} (ho : Op2 X T c W (compareOp op) g) (ha : PE X a (mE X.K T c W f1)) (hb : PE X b (mE X.K T c W f2)) (hm : behindInMarks op b = false) : PT X (.Compare a [op] [b] pos) (mT X.K T c W (opT g f1 f2)) := by
  obtain ⟨r, h, k⟩ := ho
  refine pt_mono (pt_cmpR h ha hb hm) fun σ H Q ⟨G, ρ, j, p⟩ => ?_
  refine op2_to k σ H _ (pX_bind j p fun x v ρ1 G1 H1 l1 j1 r1 p1 => ?_)
  cases r1 with
  | bl b => exact ⟨b, rfl, p1.here j1 rfl⟩
  | _ => exact p1.elim
/-- an expression that gives True or False, as a test -/
def tst (f : MM D) : MM Bool := MM.bind f fun x => lift (toB x)
theorem mt_val (h : PE X e (mE X.K T c W f)) (he : ∀ whole, isTrue e X.env whole = (do let v ← whole; standAt e.pos; holding [v] (truthy v)) := by intro _; rfl) : PT X e (mT X.K T c W (tst f)) := by
  refine pt_mono (pt_val h he) fun σ H Q ⟨G, ρ, j, p⟩ => ?_
  refine pX_bind j p fun x v ρ1 G1 H1 l1 j1 r1 p1 => ?_
  cases r1 with
  | bl b => exact ⟨b, rfl, p1.here j1 rfl⟩
  | _ => exact p1.elim
/-! ### and, or, not -/
def andT (f g : MM Bool) : MM Bool := MM.bind f fun b => if b = true then g else MM.pure false
def orT (f g : MM Bool) : MM Bool := MM.bind f fun b => if b = true then MM.pure true else g
def notT (f : MM Bool) : MM Bool := MM.bind f fun b => MM.pure (!b)
variable {g1 g2 : MM Bool} {rest : List Expr}
theorem mw_and1 (ha : PT X a (mT X.K T c W g1)) : PW X (.BoolOp .And [a] pos) (mT X.K T c W g1) := pw_and1 ha
theorem mw_or1 (ha : PT X a (mT X.K T c W g1)) : PW X (.BoolOp .Or [a] pos) (mT X.K T c W g1) := pw_or1 ha
theorem mw_and (ha : PT X a (mT X.K T c W g1)) (hb : PW X (.BoolOp .And (b :: rest) pos) (mT X.K T c W g2)) : PW X (.BoolOp .And (a :: b :: rest) pos) (mT X.K T c W (andT g1 g2)) := by
  refine pw_mono (pw_and ha hb) fun σ H Q ⟨G, ρ, j, p⟩ => ?_
  refine pX_bind j p fun x v ρ1 G1 H1 l1 j1 r1 p1 => ?_
  cases r1
  cases x with
  | true => exact ⟨G1, ρ1, j1, p1⟩
  | false => exact p1.here j1 rfl
theorem mw_or (ha : PT X a (mT X.K T c W g1)) (hb : PW X (.BoolOp .Or (b :: rest) pos) (mT X.K T c W g2)) : PW X (.BoolOp .Or (a :: b :: rest) pos) (mT X.K T c W (orT g1 g2)) := by
  refine pw_mono (pw_or ha hb) fun σ H Q ⟨G, ρ, j, p⟩ => ?_
  refine pX_bind j p fun x v ρ1 G1 H1 l1 j1 r1 p1 => ?_
  cases r1
  cases x with
  | true => exact p1.here j1 rfl
  | false => exact ⟨G1, ρ1, j1, p1⟩
theorem mt_not (ha : PT X a (mT X.K T c W g1)) : PT X (.UnaryOp .Not a pos) (mT X.K T c W (notT g1)) := by
  refine pt_mono (pt_not ha) fun σ H Q ⟨G, ρ, j, p⟩ => ?_
  refine pX_bind j p fun x v ρ1 G1 H1 l1 j1 r1 p1 => ?_
  cases r1
  exact p1.here j1 rfl
/-- .. as values -/
def andV (f g : MM D) : MM D := MM.bind f fun x => match x with
  | .bool true => g
  | .bool false => MM.pure (.bool false)
  | _ => stuck
def orV (f g : MM D) : MM D := MM.bind f fun x => match x with
  | .bool true => MM.pure (.bool true)
  | .bool false => g
  | _ => stuck
def notV (f : MM D) : MM D := MM.bind f fun x => match x with
  | .bool b => MM.pure (.bool !b)
  | _ => stuck
theorem me_one {op} (h : PE X a (mE X.K T c W f)) : PE X (.BoolOp op [a] pos) (mE X.K T c W f) := pe_one h
theorem me_and (ha : PE X a (mE X.K T c W f1)) (hb : PE X (.BoolOp .And (b :: rest) pos) (mE X.K T c W f2)) : PE X (.BoolOp .And (a :: b :: rest) pos) (mE X.K T c W (andV f1 f2)) := by
  refine pe_mono (pe_and ha hb) fun σ H Q ⟨G, ρ, j, p⟩ => ?_
  refine pX_bind j p fun x v ρ1 G1 H1 l1 j1 r1 p1 => ?_
  cases r1 with
  | bl b =>
    refine ⟨b, rfl, ?_⟩
    cases b with
    | true => exact ⟨G1, ρ1, j1, p1⟩
    | false => exact p1.here j1 (.bl false)
  | _ => exact p1.elim
theorem me_or (ha : PE X a (mE X.K T c W f1)) (hb : PE X (.BoolOp .Or (b :: rest) pos) (mE X.K T c W f2)) : PE X (.BoolOp .Or (a :: b :: rest) pos) (mE X.K T c W (orV f1 f2)) := by
  refine pe_mono (pe_or ha hb) fun σ H Q ⟨G, ρ, j, p⟩ => ?_
  refine pX_bind j p fun x v ρ1 G1 H1 l1 j1 r1 p1 => ?_
  cases r1 with
  | bl b =>
    refine ⟨b, rfl, ?_⟩
    cases b with
    | false => exact ⟨G1, ρ1, j1, p1⟩
    | true => exact p1.here j1 (.bl true)
  | _ => exact p1.elim
theorem me_not (ha : PE X a (mE X.K T c W f)) : PE X (.UnaryOp .Not a pos) (mE X.K T c W (notV f)) := by
  refine pe_mono (pe_not ha) fun σ H Q ⟨G, ρ, j, p⟩ => ?_
  refine pX_bind j p fun x v ρ1 G1 H1 l1 j1 r1 p1 => ?_
  cases r1 with
  | bl b => exact ⟨b, rfl, p1.here j1 (.bl _)⟩
  | _ => exact p1.elim
def ifE (t : MM Bool) (f g : MM D) : MM D := MM.bind t fun b => if b = true then f else g
theorem me_if {t : Expr} (hc : PT X t (mT X.K T c W g1)) (ha : PE X a (mE X.K T c W f1)) (hb : PE X b (mE X.K T c W f2)) : PE X (.IfExp t a b pos) (mE X.K T c W (ifE g1 f1 f2)) := by
  refine pe_mono (pe_ifExp hc ha hb) fun σ H Q ⟨G, ρ, j, p⟩ => ?_
  refine pX_bind j p fun x v ρ1 G1 H1 l1 j1 r1 p1 => ?_
  cases r1
  cases x with
  | true => exact ⟨G1, ρ1, j1, p1⟩
  | false => exact ⟨G1, ρ1, j1, p1⟩
/-! ### chains -/
def chainV (g g' : D → D → Res D) (f1 f2 f3 : MM D) : MM D := MM.bind f1 fun x => MM.bind f2 fun y => MM.bind (lift (g x y)) fun z => match z with
  | .bool true => MM.bind f3 fun u => lift (g' y u)
  | .bool false => MM.pure (.bool false)
  | _ => stuck
theorem chain_to {r r' : R2} {g g' : D → D → Res D} {f3 : MM D} (k : ∀ σ ρ G H x y d e (Q : VK), J X.K T c G H σ ρ → Dq X.K G x d → Dq X.K G y e → pX X.K T c W (relD X.K) σ G Q (lift (g d e) ρ) → r x y H Q)
    (k' : ∀ σ ρ G H x y d e (Q : VK), J X.K T c G H σ ρ → Dq X.K G x d → Dq X.K G y e → pX X.K T c W (relD X.K) σ G Q (lift (g' d e) ρ) → r' x y H Q)
    (σ : St) (H : Hp) (Q : VK) (h : mE X.K T c W (chainV g g' f1 f2 f3) σ H Q) : tChain r r' (mE X.K T c W f1) (mE X.K T c W f2) (mE X.K T c W f3) σ H Q := by
  obtain ⟨G, ρ, j, p⟩ := h
  refine pX_bind j p fun x v ρ1 G1 H1 l1 j1 r1 p1 => ?_
  refine pX_bind j1 p1 fun y w ρ2 G2 H2 l2 j2 r2 p2 => ?_
  refine k σ ρ2 G2 H2 v w x y _ j2 (r1.le l2) r2 ?_
  unfold MM.bind at p2
  cases e : g x y with
  | ok z =>
    rw [e] at p2
    intro u G3 H3 l3 j3 r3
    have p3 := pX.le l3 p2
    cases r3 with
    | bl b =>
      refine ⟨b, rfl, ?_⟩
      cases b with
      | true =>
        rw [if_pos rfl]
        refine pX_bind j3 p3 fun z' w' ρ4 G4 H4 l4 j4 r4 p4 => ?_
        exact k' σ ρ4 G4 H4 w w' y z' Q j4 ((r2.le l3).le l4) r4 p4
      | false =>
        rw [if_neg Bool.false_ne_true]
        exact p3.here j3 (.bl false)
    | _ => exact p3.elim
  | exn z =>
    rw [e] at p2
    exact p2
  | stuck =>
    rw [e] at p2
    exact p2
theorem me_chain {op op' : CmpOp} {g g' : D → D → Res D} {d : Expr} {f3 : MM D} (ho : Op2 X T c W (compareOp op) g) (ho' : Op2 X T c W (compareOp op') g') (ha : PE X a (mE X.K T c W f1)) (hb : PE X b (mE X.K T c W f2)) (hd : PE X d (mE X.K T c W f3))
    (hm : lastMarks [op, op'] [b, d] = false := by with_unfolding_all rfl) : PE X (.Compare a [op, op'] [b, d] pos) (mE X.K T c W (chainV g g' f1 f2 f3)) := by
  obtain ⟨r, h, k⟩ := ho
  obtain ⟨r', h', k'⟩ := ho'
  exact pe_mono (pe_chain h h' ha hb hd hm) (chain_to k k')
theorem mt_chain {op op' : CmpOp} {g g' : D → D → Res D} {d : Expr} {f3 : MM D} (ho : Op2 X T c W (compareOp op) g) (ho' : Op2 X T c W (compareOp op') g') (ha : PE X a (mE X.K T c W f1)) (hb : PE X b (mE X.K T c W f2)) (hd : PE X d (mE X.K T c W f3))
    (hm : lastMarks [op, op'] [b, d] = false := by with_unfolding_all rfl) : PT X (.Compare a [op, op'] [b, d] pos) (mT X.K T c W (tst (chainV g g' f1 f2 f3))) := by
  obtain ⟨r, h, k⟩ := ho
  obtain ⟨r', h', k'⟩ := ho'
  refine pt_mono (pt_chain h h' ha hb hd hm) fun σ H Q ⟨G, ρ, j, p⟩ => ?_
  refine chain_to k k' σ H _ (pX_bind j p fun x v ρ1 G1 H1 l1 j1 r1 p1 => ?_)
  cases r1 with
  | bl b => exact ⟨b, rfl, p1.here j1 rfl⟩
  | _ => exact p1.elim
/-! ### argument lists, displays -/
def consA (f : MM D) (g : MM (List D)) : MM (List D) := MM.bind f fun x => MM.bind g fun xs => MM.pure (x :: xs)
theorem ma_nil : PA X [] (mA X.K T c W (MM.pure [])) := pa_mono pa_nil fun σ H Q ⟨G, ρ, j, p⟩ => p.here j .nil
theorem ma_cons {es : List Expr} {g : MM (List D)} (ha : PE X e (mE X.K T c W f)) (hr : PA X es (mA X.K T c W g)) (hs : starEach (e :: es) X.env = (false, eval e X.env) :: starEach es X.env := by rfl) : PA X (e :: es) (mA X.K T c W (consA f g)) := by
  refine pa_mono (pa_cons ha hr hs) fun σ H Q ⟨G, ρ, j, p⟩ => ?_
  refine pX_bind j p fun x v ρ1 G1 H1 l1 j1 r1 p1 => ?_
  refine pX_bind j1 p1 fun y w ρ2 G2 H2 l2 j2 r2 p2 => ?_
  exact p2.here j2 (.cons (r1.le l2) r2)
def small (n : Nat) : Bool := decide (n ≤ sizeLine)
def mkT (xs : List D) : Res D := if small xs.length = true then .ok (.tuple xs) else .stuck
def mkL (xs : List D) : Res D := if small xs.length = true then .ok (.list xs) else .stuck
/-- a tuple laid, its object told -/
def tupO (o : Obj) : Prop := o.dict = none
def tTupF (t : TA) : TE := fun σ H Q => t σ H fun xs H1 => xs.length ≤ sizeLine ∧ ∀ p o, H1 p = none → o.dict = none → Q (.ref p) (upd H1 p (.frz o (.tup xs)))
theorem laidT {pins : List (Addr × Obj)} {s1 : Shared} {σ : St} {H1 : Hp} {us : List Value} {xs : List V} {Q : VK} {t' : Nat} (I1 : Inv X pins σ H1 s1) (r : Vals xs us) (z : xs.length ≤ sizeLine) (q : ∀ p o, H1 p = none → o.dict = none → Q (.ref p) (upd H1 p (.frz o (.tup xs)))) :
    EP X pins σ Q (.ref s1.heap.objs.size) { s1 with heap := s1.heap.push { cls := .type "tuple", data := .seq us.toArray }, toks := t' } := by
  have hf : H1 s1.heap.objs.size = none := I1.hok.fresh (Nat.le_refl _)
  refine ⟨.ref s1.heap.objs.size, upd H1 s1.heap.objs.size (.frz { cls := .type "tuple", data := .seq us.toArray } (.tup xs)), I1.laid (t' := t') (fun b u e => Heap.get?_push_of_some _ e) (Nat.le_refl _) ?_, rfl, q _ _ hf rfl⟩
  exact ⟨Heap.get?_push_size _ rfl, z, us, r, ⟨_, Heap.get?_push_size _ rfl, rfl, _, rfl⟩⟩
theorem pe_tupF {es : List Expr} {t : TA} {x1} (h : PA X es t) : PE X (.Tuple es x1 pos) (tTupF t) := by
  refine ⟨fun pins s σ H Q I hq => ?_⟩
  refine wpAny_Tuple_spliced (thn (h.run pos pins s σ H _ I hq) fun us s1 ⟨xs, H1, I1, r, z, q⟩ => ⟨by rw [← r.length]; exact z, ?_⟩)
  exact laidT I1 r z q
theorem J.newT {K : Fg} {T : Tb} {c : Gh} {G : Wd} {H : Hp} {σ : St} {ρ : MSt} {p : Addr} {o : Obj} {vs : List V} {ds : List D} (j : J K T c G H σ ρ) (hp : H p = none) (ho : o.dict = none) (r : DqAll K G vs ds) : Dq K (wupd G p (.frz o (.tup vs))) (.ref p) (.tuple ds) :=
  .tup (.inl ⟨o, upd_same, ho⟩) (r.le (Le.upd (j.fresh hp)))
theorem me_tup {es : List Expr} {g : MM (List D)} {x1} (h : PA X es (mA X.K T c W g)) : PE X (.Tuple es x1 pos) (mE X.K T c W (MM.bind g fun xs => lift (mkT xs))) := by
  refine pe_mono (pe_tupF h) fun σ H Q ⟨G, ρ, j, p⟩ => ?_
  refine pX_bind j p fun x v ρ1 G1 H1 l1 j1 r1 p1 => ?_
  unfold mkT at p1
  split at p1
  · rename_i hs
    refine ⟨by rw [r1.length]; exact of_decide_eq_true hs, fun p o hp ho => ?_⟩
    exact p1 _ _ _ (Le.upd (j1.fresh hp)) (j1.grow hp) (j1.newT hp ho r1)
  · exact p1.elim
theorem me_lst {es : List Expr} {g : MM (List D)} (h : PA X es (mA X.K T c W g)) : PE X (.List es pos) (mE X.K T c W (MM.bind g fun xs => lift (mkL xs))) := by
  refine pe_mono (pe_lst h) fun σ H Q ⟨G, ρ, j, p⟩ => ?_
  refine pX_bind j p fun x v ρ1 G1 H1 l1 j1 r1 p1 => ?_
  unfold mkL at p1
  split at p1
  · rename_i hs
    refine ⟨by rw [r1.length]; exact of_decide_eq_true hs, fun p hp => ?_⟩
    exact p1 _ _ _ (Le.upd (j1.fresh hp)) (j1.grow hp) (.lst (.inl upd_same) (r1.le (Le.upd (j1.fresh hp))))
  · exact p1.elim
end
end Mi
set_option Elab.async false
set_option linter.all false
set_option maxRecDepth 100000
set_option maxHeartbeats 4000000
namespace Mi
open PySem L2
/-! ### statements -/
inductive Fl where
  | nx | rt (d : D) | bk | ct
section
variable (K : Fg) (T : Tb) (c : Gh) (W : WX)
def pS (Dn : Ends) (G : Wd) : Out Fl → Prop
  | .ok .nx ρ' => ∀ σ' G' H', Le G G' → J K T c G' H' σ' ρ' → Dn.nx σ' H'
  | .ok (.rt d) ρ' => ∀ v σ' G' H', Le G G' → J K T c G' H' σ' ρ' → Dq K G' v d → Dn.rt v H'
  | .ok .bk ρ' => ∀ σ' G' H', Le G G' → J K T c G' H' σ' ρ' → Dn.bk σ' H'
  | .ok .ct ρ' => ∀ σ' G' H', Le G G' → J K T c G' H' σ' ρ' → Dn.ct σ' H'
  | .exn e ρ' => ∀ cls dx σ' G' H', Le G G' → J K T c G' H' σ' ρ' → IsX K H' e cls dx → W cls dx σ' H'
  | .stuck => False
def mS (f : MM Fl) : TS := fun Dn σ H => ∃ G ρ, J K T c G H σ ρ ∧ pS K T c W Dn G (f ρ)
/-- targets: vs the slots that they may change -/
def pG (vs : List Nat) (σ : St) (G : Wd) (Q : St → Hp → Prop) : Option MSt → Prop
  | some ρ' => ∀ σ' G' H', wipe σ' vs = wipe σ vs → Le G G' → J K T c G' H' σ' ρ' → Q σ' H'
  | none => False
def mG (rel : Wd → V → D → Prop) (vs : List Nat) (g : D → MSt → Option MSt) : TG := fun v σ H Q => ∃ G ρ d, J K T c G H σ ρ ∧ rel G v d ∧ pG K T c vs σ G Q (g d ρ)
def mGs (vs : List Nat) (g : List D → MSt → Option MSt) : TGs := fun xs σ H Q => ∃ G ρ ds, J K T c G H σ ρ ∧ DqAll K G xs ds ∧ pG K T c vs σ G Q (g ds ρ)
end
section
variable {K : Fg} {T : Tb} {c : Gh} {W : WX} {Dn : Ends} {G G1 : Wd} {H : Hp} {σ : St} {ρ : MSt} {o : Out Fl}
theorem pS.le (l : Le G G1) (h : pS K T c W Dn G o) : pS K T c W Dn G1 o := by
  cases o with
  | ok a ρ' => cases a with
    | nx => exact fun σ' G' H' l' => h σ' G' H' (l.trans l')
    | rt d => exact fun v σ' G' H' l' => h v σ' G' H' (l.trans l')
    | bk => exact fun σ' G' H' l' => h σ' G' H' (l.trans l')
    | ct => exact fun σ' G' H' l' => h σ' G' H' (l.trans l')
  | exn e ρ' => exact fun cls dx σ' G' H' l' => h cls dx σ' G' H' (l.trans l')
  | stuck => exact h
theorem pS_bind {α β : Type} {rel : Wd → β → α → Prop} {R : β → Hp → Prop} {f : MM α} {g : α → MM Fl} (j : J K T c G H σ ρ) (p : pS K T c W Dn G (MM.bind f g ρ))
    (k : ∀ a b ρ1 G1 H1, Le G G1 → J K T c G1 H1 σ ρ1 → rel G1 b a → pS K T c W Dn G1 (g a ρ1) → R b H1) : mX K T c W rel f σ H R := by
  refine ⟨G, ρ, j, ?_⟩
  unfold MM.bind at p
  cases e : f ρ with
  | ok a ρ1 =>
    rw [e] at p
    exact fun b G1 H1 l j1 r => k a b ρ1 G1 H1 l j1 r (pS.le l p)
  | exn x ρ1 =>
    rw [e] at p
    exact fun cls dx G' H' l j' i => p cls dx σ G' H' l j' i
  | stuck =>
    rw [e] at p
    exact p
end
def seqS (f g : MM Fl) : MM Fl := MM.bind f fun fl => match fl with
  | .nx => g
  | o => MM.pure o
def ifS (t : MM Bool) (f g : MM Fl) : MM Fl := MM.bind t fun b => if b = true then f else g
def setD (i : Nat) (d : D) : MSt → Option MSt := fun ρ => if i + 1 < ρ.length then some (ρ.set i (some (.d d))) else none
section
variable {X : Cx} {T : Tb} {c : Gh} {W : WX} {e : Expr} {f : MM D} {st : Stmt} {rest : List Stmt} {s1 s2 : MM Fl} {pos : Pos}
theorem ms_seq (h1 : PS X st (mS X.K T c W s1)) (h2 : PSs X rest (mS X.K T c W s2)) : PSs X (st :: rest) (mS X.K T c W (seqS s1 s2)) := by
  refine pss_mono (pss_cons h1 h2) fun Dn σ H ⟨G, ρ, j, p⟩ => ⟨G, ρ, j, ?_⟩
  unfold seqS MM.bind at p
  cases e : s1 ρ with
  | ok a ρ1 =>
    rw [e] at p
    cases a with
    | nx => exact fun σ' G' H' l j' => ⟨G', ρ1, j', pS.le l p⟩
    | rt d => exact p
    | bk => exact p
    | ct => exact p
  | exn x ρ1 => rw [e] at p; exact p
  | stuck => rw [e] at p; exact p
theorem ms_nil : PSs X [] (mS X.K T c W (MM.pure .nx)) := pss_mono pss_nil fun Dn σ H ⟨G, ρ, j, p⟩ => p σ G H (Le.refl G) j
theorem ms_one (h1 : PS X st (mS X.K T c W s1)) : PSs X [st] (mS X.K T c W s1) := pss_one h1
def retS (f : MM D) : MM Fl := MM.bind f fun d => MM.pure (.rt d)
theorem ms_ret (he : PE X e (mE X.K T c W f)) : PS X (.Return (some e) pos) (mS X.K T c W (retS f)) := by
  refine ps_mono (ps_ret he) fun Dn σ H ⟨G, ρ, j, p⟩ => ?_
  exact pS_bind j p fun x v ρ1 G1 H1 l1 j1 r1 p1 => p1 v σ G1 H1 (Le.refl G1) j1 r1
theorem ms_retN : PS X (.Return none pos) (mS X.K T c W (MM.pure (.rt .none))) := ps_mono ps_retN fun Dn σ H ⟨G, ρ, j, p⟩ => p .non σ G H (Le.refl G) j .non
theorem ms_pass : PS X (.Pass pos) (mS X.K T c W (MM.pure .nx)) := ps_mono ps_pass fun Dn σ H ⟨G, ρ, j, p⟩ => p σ G H (Le.refl G) j
theorem ms_break : PS X (.Break pos) (mS X.K T c W (MM.pure .bk)) := ps_mono ps_break fun Dn σ H ⟨G, ρ, j, p⟩ => p σ G H (Le.refl G) j
theorem ms_continue : PS X (.Continue pos) (mS X.K T c W (MM.pure .ct)) := ps_mono ps_continue fun Dn σ H ⟨G, ρ, j, p⟩ => p σ G H (Le.refl G) j
theorem ms_never : PS X st (mS X.K T c W stuck) := ⟨fun _ _ _ _ _ _ ⟨_, _, _, p⟩ => p.elim⟩
def exprS (f : MM D) : MM Fl := MM.bind f fun _ => MM.pure .nx
theorem ms_expr (he : PE X e (mE X.K T c W f)) (hs : swapsWith e none pos.line X.env = pure false := by rfl) : PS X (.Expr e pos) (mS X.K T c W (exprS f)) := by
  refine ps_mono (ps_expr he hs) fun Dn σ H ⟨G, ρ, j, p⟩ => ?_
  exact pS_bind j p fun x v ρ1 G1 H1 l1 j1 r1 p1 => p1 σ G1 H1 (Le.refl G1) j1
theorem ms_if {t : Expr} {a b : List Stmt} {g : MM Bool} (hc : PT X t (mT X.K T c W g)) (ha : PSs X a (mS X.K T c W s1)) (hb : PSs X b (mS X.K T c W s2)) : PS X (.If t a b pos) (mS X.K T c W (ifS g s1 s2)) := by
  refine ps_mono (ps_if hc ha hb) fun Dn σ H ⟨G, ρ, j, p⟩ => ?_
  refine pS_bind j p fun x v ρ1 G1 H1 l1 j1 r1 p1 => ?_
  cases r1
  cases x with
  | true => exact ⟨G1, ρ1, j1, p1⟩
  | false => exact ⟨G1, ρ1, j1, p1⟩
/-! ### targets -/
theorem wipe_set {σ : St} {i : Nat} {v : Option V} : ∀ {vs : List Nat}, i ∈ vs → wipe (σ.set i v) vs = wipe σ vs
  | [], h => by cases h
  | k :: vs, h => by
    show (wipe (σ.set i v) vs).set k none = (wipe σ vs).set k none
    by_cases z : i ∈ vs
    · rw [wipe_set z]
    · have e : i = k := by
        rcases List.mem_cons.mp h with e | e
        · exact e
        · exact absurd e z
      subst e
      have : ∀ ws : List Nat, i ∉ ws → (wipe (σ.set i v) ws) = (wipe σ ws).set i v := by
        intro ws
        induction ws with
        | nil => intro _; rfl
        | cons y ws ih =>
          intro hn
          have h1 : i ≠ y := fun q => hn (by rw [q]; exact List.mem_cons_self)
          show (wipe (σ.set i v) ws).set y none = ((wipe σ ws).set y none).set i v
          rw [ih (fun q => hn (List.mem_cons_of_mem _ q)), List.set_comm _ _ h1]
      rw [this vs z, List.set_set]
theorem mg_name {i : Nat} {x : Str} (hN : X.N.Nodup) (hi : X.N[i]? = some x) (hx : Loc X.env.scope x) (hf : X.fn x = true ∨ X.env.scope.names.lookup x = some .local := by first | exact .inl rfl | exact .inr rfl | assumption) : PG X (.Name x pos) (mG X.K T c (relD X.K) [i] (setD i)) := by
  have h := pg_name (X := X) (pos := pos) hN hi hx hf
  refine ⟨fun pins s σ H v u Q I r q => h.run pins s σ H v u Q I r ?_⟩
  obtain ⟨G, ρ, d, j, dq, p⟩ := q
  unfold setD at p
  split at p
  · rename_i hl
    exact p _ G H (wipe_set (by simp)) (Le.refl G) (j.set hl dq)
  · exact p.elim
/-- (a, b, ..): the slots of the names -/
def setMany : List Nat → List D → MSt → Option MSt
  | [], [], ρ => some ρ
  | i :: is, d :: ds, ρ => if i + 1 < ρ.length then setMany is ds (ρ.set i (some (.d d))) else none
  | _, _, _ => none
theorem mgs_nil : PGs X [] (mGs X.K T c [] (setMany [])) := by
  refine ⟨fun pins s σ H vs us Q I r q => (pgs_nil (X := X)).run pins s σ H vs us Q I r ?_⟩
  obtain ⟨G, ρ, ds, j, dq, p⟩ := q
  cases dq with
  | nil => exact ⟨rfl, p σ G H rfl (Le.refl G) j⟩
  | cons _ _ => exact p.elim
theorem wipe_more {σ σ' : St} {i : Nat} : ∀ {vs : List Nat}, wipe σ' vs = wipe σ vs → wipe σ' (i :: vs) = wipe σ (i :: vs) := fun h => by
  show (wipe σ' _).set i none = (wipe σ _).set i none
  rw [h]
theorem mgs_cons {i : Nat} {is : List Nat} {x : Str} {es : List Expr} (hN : X.N.Nodup) (hi : X.N[i]? = some x) (hx : Loc X.env.scope x) (h2 : PGs X es (mGs X.K T c is (setMany is)))
    (hf : X.fn x = true ∨ X.env.scope.names.lookup x = some .local := by first | exact .inl rfl | exact .inr rfl | assumption)
    (hs : (assignEach (.Name x pos :: es) X.env).map (·.2) = assign (.Name x pos) X.env :: (assignEach es X.env).map (·.2) := by rfl) : PGs X (.Name x pos :: es) (mGs X.K T c (i :: is) (setMany (i :: is))) := by
  have h := pgs_cons (X := X) (pg_name (X := X) (pos := pos) hN hi hx hf) h2 hs
  refine ⟨fun pins s σ H vs us Q I r q => h.run pins s σ H vs us Q I r ?_⟩
  obtain ⟨G, ρ, ds, j, dq, p⟩ := q
  cases dq with
  | nil => exact p.elim
  | cons d1 dr =>
    unfold setMany at p
    split at p
    · rename_i hl
      refine ⟨_, _, rfl, G, _, _, j.set hl d1, dr, ?_⟩
      cases e : setMany is _ (ρ.set i (some (.d _))) with
      | none => rw [e] at p; exact p.elim
      | some ρ' =>
        rw [e] at p
        exact fun σ' G' H' w l j' => p σ' G' H' (by
          have := wipe_more (i := i) w
          rw [this, wipe_set List.mem_cons_self]) l j'
    · exact p.elim
def setT (is : List Nat) : D → MSt → Option MSt
  | .tuple ds => setMany is ds
  | _ => fun _ => none
/-- a tuple, be its object told or not -/
abbrev relY (K : Fg) : Wd → V → D → Prop := fun G v d => Dq K G v d ∨ ∃ a xs ds, v = .ref a ∧ d = .tuple ds ∧ SqT K G a xs ∧ DqAll K G xs ds
theorem mg_tup {es : List Expr} {k : Nat} {is : List Nat} (hc : X.calm = true) (h : PGs X es (mGs X.K T c is (setMany is))) (hl : es.length = is.length := by rfl)
    (hn : (assignEach es X.env).length = is.length := by rfl) (hst : (assignEach es X.env).findIdx? (·.1) = none := by rfl) : PG X (.Tuple es k pos) (mG X.K T c (relY X.K) is (setT is)) := by
  have h0 := pg_tup (X := X) (k := k) (pos := pos) hc h hn hst
  refine ⟨fun pins s σ H v u Q I r q => h0.run pins s σ H v u Q I r ?_⟩
  obtain ⟨G, ρ, d, j, dq, p⟩ := q
  have hlen : ∀ (is : List Nat) (ds : List D) (ρ : MSt), ds.length ≠ is.length → setMany is ds ρ = none := by
    intro is
    induction is with
    | nil => intro ds ρ hn; cases ds with | nil => exact absurd rfl hn | cons _ _ => rfl
    | cons i is ih =>
      intro ds ρ hn
      cases ds with
      | nil => rfl
      | cons d ds =>
        unfold setMany
        split
        · exact ih ds _ (by simpa using hn)
        · rfl
  have fin : ∀ {a : Addr} {xs : List V} {ds : List D}, SqT X.K G a xs → DqAll X.K G xs ds → pG X.K T c is σ G Q (setMany is ds ρ) → gTup X.K is.length (mGs X.K T c is (setMany is)) (.ref a) σ H Q := fun {a xs ds} hq hr p => by
    by_cases z : ds.length = is.length
    · exact ⟨a, xs, rfl, sqT_sub hq j.subH, by rw [hr.length, z], G, ρ, ds, j, hr, p⟩
    · rw [hlen is ds ρ z] at p
      exact p.elim
  rcases dq with dq | ⟨a, xs, ds, rfl, rfl, hq, hr⟩
  · cases dq with
    | tup hq hr => exact fin hq.sq hr p
    | _ => exact p.elim
  · exact fin hq hr p
theorem mg_sub {tg : Expr} {vs : List Nat} {g : D → MSt → Option MSt} (h : PG X tg (mG X.K T c (relY X.K) vs g)) : PG X tg (mG X.K T c (relD X.K) vs g) :=
  ⟨fun pins s σ H v u Q I r ⟨G, ρ, d, j, dq, p⟩ => h.run pins s σ H v u Q I r ⟨G, ρ, d, j, .inl dq, p⟩⟩
theorem mg_tupD {es : List Expr} {k : Nat} {is : List Nat} (hc : X.calm = true) (h : PGs X es (mGs X.K T c is (setMany is))) (hl : es.length = is.length := by rfl)
    (hn : (assignEach es X.env).length = is.length := by rfl) (hst : (assignEach es X.env).findIdx? (·.1) = none := by rfl) : PG X (.Tuple es k pos) (mG X.K T c (relD X.K) is (setT is)) := mg_sub (mg_tup hc h hl hn hst)
/-- target = e -/
def asgS (f : MM D) (g : D → MSt → Option MSt) : MM Fl := MM.bind f fun d => fun ρ => match g d ρ with
  | some ρ' => .ok .nx ρ'
  | none => .stuck
theorem asg_to {vs : List Nat} {g : D → MSt → Option MSt} (Dn : Ends) (σ : St) (H : Hp) (h : mS X.K T c W (asgS f g) Dn σ H) : tAsg (mE X.K T c W f) (mG X.K T c (relD X.K) vs g) Dn σ H := by
  obtain ⟨G, ρ, j, p⟩ := h
  refine pS_bind j p fun x v ρ1 G1 H1 l1 j1 r1 p1 => ⟨G1, ρ1, x, j1, r1, ?_⟩
  cases e : g x ρ1 with
  | some ρ2 =>
    rw [e] at p1
    exact fun σ' G' H' _ l j' => p1 σ' G' H' l j'
  | none => rw [e] at p1; exact p1.elim
theorem ms_asg {tg : Expr} {vs : List Nat} {g : D → MSt → Option MSt} (he : PE X e (mE X.K T c W f)) (hg : PG X tg (mG X.K T c (relD X.K) vs g)) (hs : swapsWithSole [tg] e pos.line X.env = pure false := by rfl) (hw : swappedStores [tg] e X.env = pure none := by rfl)
    (h1 : (assignEach [tg] X.env).map (·.2) = [assign tg X.env] := by rfl) : PS X (.Assign [tg] e pos) (mS X.K T c W (asgS f g)) := ps_mono (ps_asg he hg hs hw h1) asg_to
theorem ms_set {i : Nat} {x : Str} {pos' : Pos} (hN : X.N.Nodup) (hi : X.N[i]? = some x) (hx : Loc X.env.scope x) (he : PE X e (mE X.K T c W f)) (hs : swapsWith e (some (.Name x pos')) pos.line X.env = pure false := by rfl) (hf : X.fn x = true ∨ X.env.scope.names.lookup x = some .local := by first | exact .inl rfl | exact .inr rfl | assumption) :
    PS X (.Assign [.Name x pos'] e pos) (mS X.K T c W (asgS f (setD i))) := by
  refine ps_mono (ps_set (pos' := pos') hN hi hx he hs hf) fun Dn σ H ⟨G, ρ, j, p⟩ => ?_
  refine pS_bind j p fun x v ρ1 G1 H1 l1 j1 r1 p1 => ?_
  unfold setD at p1
  split at p1
  · rename_i hq
    split at hq
    · rename_i hl
      cases hq
      exact p1 _ G1 H1 (Le.refl G1) (j1.set hl r1)
    · cases hq
  · exact p1.elim
/-- a, b = x, y -/
def par2 (i k : Nat) : List D → MM Fl
  | [d, e] => fun ρ => if i + 1 < ρ.length ∧ k + 1 < ρ.length then .ok .nx ((ρ.set i (some (.d d))).set k (some (.d e))) else .stuck
  | _ => stuck
def parS (i k : Nat) (g : MM (List D)) : MM Fl := MM.bind g (par2 i k)
theorem ms_par {i k : Nat} {x y : Str} {a b : Expr} {g : MM (List D)} {px py pt : Pos} {kt k2 pt2} (hc : X.calm = true) (hN : X.N.Nodup) (hi : X.N[i]? = some x) (hj : X.N[k]? = some y) (hij : i ≠ k)
    (hx : X.env.scope.names.lookup x = some .local) (hy : X.env.scope.names.lookup y = some .local) (ha : PA X [a, b] (mA X.K T c W g))
    (hw : swappedStores [.Tuple [.Name x px, .Name y py] kt pt] (.Tuple [a, b] k2 pt2) X.env = pure (some [x, y]))
    (hs : swapsWithSole [.Tuple [.Name x px, .Name y py] kt pt] (.Tuple [a, b] k2 pt2) pos.line X.env = pure false := by rfl) :
    PS X (.Assign [.Tuple [.Name x px, .Name y py] kt pt] (.Tuple [a, b] k2 pt2) pos) (mS X.K T c W (parS i k g)) := by
  refine ps_mono (ps_par hc hN hi hj hij hx hy ha hw hs) fun Dn σ H ⟨G, ρ, j, p⟩ => ?_
  refine pS_bind j p fun ds vs ρ1 G1 H1 l1 j1 r1 p1 => ?_
  cases r1 with
  | nil => exact p1.elim
  | cons d1 r1 =>
    cases r1 with
    | nil => exact p1.elim
    | cons d2 r1 =>
      cases r1 with
      | nil =>
        refine ⟨_, _, rfl, ?_⟩
        have p2 : pS X.K T c W Dn G1 (if i + 1 < ρ1.length ∧ k + 1 < ρ1.length then .ok .nx ((ρ1.set i (some (.d _))).set k (some (.d _))) else .stuck) := p1
        by_cases h2 : i + 1 < ρ1.length ∧ k + 1 < ρ1.length
        · rw [if_pos h2] at p2
          exact p2 _ G1 H1 (Le.refl G1) ((j1.set h2.1 d1).set (by simpa using h2.2) d2)
        · rw [if_neg h2] at p2
          exact p2.elim
      | cons d3 r1 => exact p1.elim
/-- a, b, c = x, y, z with plain local names -/
def tPar3 (i j k : Nat) (ta : TA) : TS := fun D σ H => ta σ H fun vs H1 => ∃ v w u, vs = [v, w, u] ∧ D.nx (((σ.set i (some v)).set j (some w)).set k (some u)) H1
theorem ps_par3 {i j k : Nat} {x y z : Str} {a b d : Expr} {ta : TA} {px py pz pt : Pos} {kt k2 pt2} (hc : X.calm = true) (hN : X.N.Nodup) (hi : X.N[i]? = some x) (hj : X.N[j]? = some y) (hk : X.N[k]? = some z) (hij : i ≠ j) (hik : i ≠ k) (hjk : j ≠ k)
    (hx : X.env.scope.names.lookup x = some .local) (hy : X.env.scope.names.lookup y = some .local) (hz : X.env.scope.names.lookup z = some .local) (ha : PA X [a, b, d] ta)
    (hw : swappedStores [.Tuple [.Name x px, .Name y py, .Name z pz] kt pt] (.Tuple [a, b, d] k2 pt2) X.env = pure (some [x, y, z]))
    (hs : swapsWithSole [.Tuple [.Name x px, .Name y py, .Name z pz] kt pt] (.Tuple [a, b, d] k2 pt2) pos.line X.env = pure false := by rfl) :
    PS X (.Assign [.Tuple [.Name x px, .Name y py, .Name z pz] kt pt] (.Tuple [a, b, d] k2 pt2) pos) (tPar3 i j k ta) := by
  refine ⟨fun pins s σ H D I h => ?_⟩
  rw [exec_Assign_arm]
  refine wpAny_bind (wpAny_standAt ?_)
  rw [hs]
  refine wpAny_bind (wpAny_pure ?_)
  rw [if_neg (by decide)]
  refine wpAny_bind (PyProof.Rows.Tuple_ (thn (ha.run _ pins s σ H _ I h) fun us s1 ⟨vs, H1, I1, r1, q1⟩ => ?_))
  obtain ⟨v, w, u, e1, q1⟩ := q1
  subst e1
  obtain ⟨u1, u2, u3, rfl, rv, rw', ru⟩ : ∃ u1 u2 u3, us = [u1, u2, u3] ∧ RelV v u1 ∧ RelV w u2 ∧ RelV u u3 := by
    cases r1 with
    | cons p q =>
      cases q with
      | cons p' q' =>
        cases q' with
        | cons p'' q'' =>
          cases q''
          exact ⟨_, _, _, rfl, p, p', p''⟩
  refine wpAny_newObj_type ?_ (by show 3 ≤ sizeLine; decide)
  have I2 : Inv X pins σ H1 { s1 with heap := s1.heap.push { cls := .type "tuple", data := .seq [u1, u2, u3].toArray } } := I1.kept (t' := s1.toks) fun b o e => Heap.get?_push_of_some _ e
  rw [hw]
  refine wpAny_bind (wpAny_pure ?_)
  show wpAny (model X.prog X.w) X.A (do rule "assign.swapped-stores"; let items ← unpackItems (.ref s1.heap.objs.size) 3 none; assignInOrder [fun v => bindName X.env z v, fun v => bindName X.env y v, fun v => bindName X.env x v] items.reverse; pure Flow.next) _ _ _
  refine wpAny_bind (wpAny_rule (wpAny_bind (PyProof.Rows.unpackItems_tuple (items := #[u1, u2, u3]) (I.ok.hd hc) (PyProof.Rows.IsTup.new s1.heap _) fun h' hx' => ?_)))
  have I3 := I2.kept (h' := h') (t' := s1.toks) fun b o e => hx' b o (Nat.ne_of_lt (Heap.lt_size e)) e
  show wpAny _ _ (assignInOrder [fun v => bindName X.env z v, fun v => bindName X.env y v, fun v => bindName X.env x v] [u3, u2, u1] >>= fun _ => pure Flow.next) _ _ _
  refine wpAny_bind (PyProof.Rows.assignInOrder_cons (wpAny_bindName (store_ok I3 hN hk (.inl hz) ru (fun s2 I4 => ?_) (.inr hz))))
  refine PyProof.Rows.assignInOrder_cons (wpAny_bindName (store_ok I4 hN hj (.inl hy) rw' (fun s3 I5 => ?_) (.inr hy)))
  refine PyProof.Rows.assignInOrder_cons (wpAny_bindName (store_ok I5 hN hi (.inl hx) rv (fun s4 I6 => PyProof.Rows.assignInOrder_nil (wpAny_pure ?_)) (.inr hx)))
  rw [List.set_comm _ _ (Ne.symm hij), List.set_comm _ _ (Ne.symm hik), List.set_comm _ _ (Ne.symm hjk)] at I6
  exact ⟨_, H1, I6, q1⟩
def par3 (i j k : Nat) : List D → MM Fl
  | [d, e, g] => fun ρ => if i + 1 < ρ.length ∧ j + 1 < ρ.length ∧ k + 1 < ρ.length then .ok .nx (((ρ.set i (some (.d d))).set j (some (.d e))).set k (some (.d g))) else .stuck
  | _ => stuck
def parS3 (i j k : Nat) (g : MM (List D)) : MM Fl := MM.bind g (par3 i j k)
theorem ms_par3 {i j k : Nat} {x y z : Str} {a b d : Expr} {g : MM (List D)} {px py pz pt : Pos} {kt k2 pt2} (hc : X.calm = true) (hN : X.N.Nodup) (hi : X.N[i]? = some x) (hj : X.N[j]? = some y) (hk : X.N[k]? = some z) (hij : i ≠ j) (hik : i ≠ k) (hjk : j ≠ k)
    (hx : X.env.scope.names.lookup x = some .local) (hy : X.env.scope.names.lookup y = some .local) (hz : X.env.scope.names.lookup z = some .local) (ha : PA X [a, b, d] (mA X.K T c W g))
    (hw : swappedStores [.Tuple [.Name x px, .Name y py, .Name z pz] kt pt] (.Tuple [a, b, d] k2 pt2) X.env = pure (some [x, y, z]))
    (hs : swapsWithSole [.Tuple [.Name x px, .Name y py, .Name z pz] kt pt] (.Tuple [a, b, d] k2 pt2) pos.line X.env = pure false := by rfl) :
    PS X (.Assign [.Tuple [.Name x px, .Name y py, .Name z pz] kt pt] (.Tuple [a, b, d] k2 pt2) pos) (mS X.K T c W (parS3 i j k g)) := by
  refine ps_mono (ps_par3 hc hN hi hj hk hij hik hjk hx hy hz ha hw hs) fun Dn σ H ⟨G, ρ, j0, p⟩ => ?_
  refine pS_bind j0 p fun ds vs ρ1 G1 H1 l1 j1 r1 p1 => ?_
  cases r1 with
  | nil => exact p1.elim
  | cons d1 r1 =>
    cases r1 with
    | nil => exact p1.elim
    | cons d2 r1 =>
      cases r1 with
      | nil => exact p1.elim
      | cons d3 r1 =>
        cases r1 with
        | nil =>
          refine ⟨_, _, _, rfl, ?_⟩
          have p2 : pS X.K T c W Dn G1 (if i + 1 < ρ1.length ∧ j + 1 < ρ1.length ∧ k + 1 < ρ1.length then .ok .nx (((ρ1.set i (some (.d _))).set j (some (.d _))).set k (some (.d _))) else .stuck) := p1
          by_cases h2 : i + 1 < ρ1.length ∧ j + 1 < ρ1.length ∧ k + 1 < ρ1.length
          · rw [if_pos h2] at p2
            exact p2 _ G1 H1 (Le.refl G1) (((j1.set h2.1 d1).set (by simpa using h2.2.1) d2).set (by simpa using h2.2.2) d3)
          · rw [if_neg h2] at p2
            exact p2.elim
        | cons d4 r1 => exact p1.elim
end
end Mi
set_option Elab.async false
set_option linter.all false
set_option maxRecDepth 100000
set_option maxHeartbeats 4000000
namespace Mi
open PySem L2
/-! ### what a loop walks -/
structure Gives (rel : Wd → V → D → Prop) (Jt : It) (G0 : Wd) (xs : List D) : Prop where
  go : ∀ i G H, Le G0 G → Lh G H → i < xs.length → Jt.go i H
  stop : ∀ G H, Le G0 G → Lh G H → Jt.stop xs.length H
  yld : ∀ i G H x H', Le G0 G → Lh G H → i < xs.length → Jt.yld i H x H' → ∃ d, xs[i]? = some d ∧ ((H' = H ∧ rel G x d) ∨ ∃ p o, H p = none ∧ (∀ ps, o ≠ .tbl ps) ∧ H' = upd H p o ∧ rel (wupd G p o) x d)
abbrev relI (rel : Wd → V → D → Prop) : Wd → It → List D → Prop := fun G Jt xs => Gives rel Jt G xs
def mI (K : Fg) (T : Tb) (c : Gh) (W : WX) (rel : Wd → V → D → Prop) (f : MM (List D)) : TI := mX K T c W (relI rel) f
theorem gives_list {K : Fg} {G : Wd} {a : Addr} {vs : List V} {ds : List D} (hq : SqL K G a vs) (hr : DqAll K G vs ds) : Gives (relD K) (Itl K a) G ds where
  go := fun i G1 H l1 l2 hi => by
    have hi' : i < vs.length := by rw [hr.length]; exact hi
    exact ⟨vs, vs[i], sqL_sub (sqL_sub hq l1.sub) l2.sub, by simp [hi']⟩
  stop := fun G1 H l1 l2 => ⟨vs, sqL_sub (sqL_sub hq l1.sub) l2.sub, by rw [hr.length]; exact Nat.le_refl _⟩
  yld := fun i G1 H x H' l1 l2 hi y => by
    obtain ⟨e, y⟩ := y
    have hx := y vs (sqL_sub (sqL_sub hq l1.sub) l2.sub)
    obtain ⟨d, e1, e2⟩ := hr.get hx
    exact ⟨d, e1, .inl ⟨e, e2.le l1⟩⟩
theorem gives_tup {K : Fg} {G : Wd} {a : Addr} {vs : List V} {ds : List D} (hq : SqT K G a vs) (hr : DqAll K G vs ds) : Gives (relD K) (Itt K a) G ds where
  go := fun i G1 H l1 l2 hi => by
    have hi' : i < vs.length := by rw [hr.length]; exact hi
    exact ⟨vs, vs[i], sqT_sub (sqT_sub hq l1.sub) l2.sub, by simp [hi']⟩
  stop := fun G1 H l1 l2 => ⟨vs, sqT_sub (sqT_sub hq l1.sub) l2.sub, by rw [hr.length]; exact Nat.le_refl _⟩
  yld := fun i G1 H x H' l1 l2 hi y => by
    obtain ⟨e, y⟩ := y
    have hx := y vs (sqT_sub (sqT_sub hq l1.sub) l2.sub)
    obtain ⟨d, e1, e2⟩ := hr.get hx
    exact ⟨d, e1, .inl ⟨e, e2.le l1⟩⟩
def charsD (s : Str) : List D := s.cps.toList.map fun ch => .str ⟨#[ch]⟩
theorem gives_str {K : Fg} {G : Wd} {s : Str} : Gives (relD K) (Its s) G (charsD s) where
  go := fun i G1 H l1 l2 hi => by
    simp only [charsD, List.length_map, Array.length_toList] at hi
    exact hi
  stop := fun G1 H l1 l2 => by
    show s.cps.size ≤ (charsD s).length
    simp [charsD]
  yld := fun i G1 H x H' l1 l2 hi y => by
    obtain ⟨e, ch, h1, h2⟩ := y
    refine ⟨.str ⟨#[ch]⟩, ?_, .inl ⟨e, by rw [h2]; exact .str _⟩⟩
    simp only [charsD, List.getElem?_map, Array.getElem?_toList, h1]
    rfl
/-- for x in e, e a list, a tuple, a text -/
def iterD : D → Res (List D)
  | .list xs => .ok xs
  | .tuple xs => .ok xs
  | .str s => .ok (charsD s)
  | _ => .stuck
section
variable {X : Cx} {T : Tb} {c : Gh} {W : WX} {e tg iter : Expr} {f : MM D} {pos : Pos}
theorem pi_seq {te : TE} (he : PE X e te) : PI X tg e (fun σ H R => te σ H fun x H1 => (∃ a, x = .ref a ∧ (∃ xs, SqL X.K H1 a xs) ∧ R (Itl X.K a) H1) ∨ (∃ a, x = .ref a ∧ (∃ xs, SqT X.K H1 a xs) ∧ R (Itt X.K a) H1) ∨ ∃ s, x = .str s ∧ R (Its s) H1) := by
  refine ⟨fun pins s σ H R I h => ?_⟩
  refine thn (he.run pins s σ H _ I h) fun v s1 ⟨x, H1, I1, r1, q1⟩ => ?_
  rcases q1 with ⟨a, e, hq, q⟩ | ⟨a, e, hq, q⟩ | ⟨z, e, q⟩
  · subst e
    cases r1
    obtain ⟨xs, hq⟩ := hq
    obtain ⟨its, rv, p, hz⟩ := I1.list hq
    refine wpAny_pyIter_list p.isList ?_
    refine ⟨s1.heap.objs.size, [s1.heap.objs.size], _, _, H1, rfl, I1.kept (t' := s1.toks) fun b o e => Heap.get?_push_of_some _ e, turn_list a _, ⟨_, Heap.get?_push_size _ rfl, rfl, rfl⟩, fun b hb => ?_, q⟩
    have e : b = s1.heap.objs.size := by simpa using hb
    subst e
    exact I1.fpOk (Nat.le_refl _) (I1.hok.fresh (Nat.le_refl _))
  · subst e
    cases r1
    obtain ⟨xs, hq⟩ := hq
    obtain ⟨its, rv, p, hz⟩ := I1.tuple hq
    refine wpAny_pyIter_tuple (show s1.heap.IsTuple a its.toArray from p) ?_
    refine ⟨s1.heap.objs.size, [s1.heap.objs.size], _, _, H1, rfl, I1.kept (t' := s1.toks) fun b o e => Heap.get?_push_of_some _ e, turn_tuple a _, ⟨_, Heap.get?_push_size _ rfl, rfl, rfl⟩, fun b hb => ?_, q⟩
    have e : b = s1.heap.objs.size := by simpa using hb
    subst e
    exact I1.fpOk (Nat.le_refl _) (I1.hok.fresh (Nat.le_refl _))
  · subst e
    obtain ⟨t, rfl⟩ := r1
    cases ha : z.cps.all (· < 128)
    · exact wpAny_pyIter_wide ha (pi_one (tk := s1.toks) I1 _ (turn_str _ z t "str_iterator" (.inr rfl)) ⟨_, Heap.get?_push_size _ rfl, rfl, rfl⟩ q)
    · exact wpAny_pyIter_ascii ha (pi_one (tk := s1.toks) I1 _ (turn_str _ z t "str_ascii_iterator" (.inl rfl)) ⟨_, Heap.get?_push_size _ rfl, rfl, rfl⟩ q)
def iterE (f : MM D) : MM (List D) := MM.bind f fun x => lift (iterD x)
theorem mi_seq (he : PE X e (mE X.K T c W f)) : PI X tg e (mI X.K T c W (relD X.K) (iterE f)) := by
  refine ⟨fun pins s σ H R I h => (pi_seq (tg := tg) he).run pins s σ H R I ?_⟩
  obtain ⟨G, ρ, j, p⟩ := h
  refine pX_bind j p fun x v ρ1 G1 H1 l1 j1 r1 p1 => ?_
  cases r1 with
  | lst hq hr => exact .inl ⟨_, rfl, ⟨_, sqL_sub (.inl hq) j1.subH⟩, p1 _ G1 H1 (Le.refl G1) j1 (gives_list (.inl hq) hr)⟩
  | tup hq hr => exact .inr (.inl ⟨_, rfl, ⟨_, sqT_sub hq.sq j1.subH⟩, p1 _ G1 H1 (Le.refl G1) j1 (gives_tup hq.sq hr)⟩)
  | str z => exact .inr (.inr ⟨z, rfl, p1 _ G1 H1 (Le.refl G1) j1 gives_str⟩)
  | _ => exact p1.elim
/-! ### range -/
def upTo (lo : Int) (n : Nat) : List D := (List.range n).map fun (i : Nat) => .int (lo + i)
theorem gives_range {K : Fg} {G : Wd} {lo : Int} {n : Nat} : Gives (relD K) (Itr lo n) G (upTo lo n) where
  go := fun i G1 H l1 l2 hi => by show i < n; simpa [upTo] using hi
  stop := fun G1 H l1 l2 => by show n ≤ _; simp [upTo]
  yld := fun i G1 H x H' l1 l2 hi y => by
    obtain ⟨e, h2⟩ := y
    refine ⟨.int (lo + i), ?_, .inl ⟨e, by rw [h2]; exact .int _⟩⟩
    have hi' : i < n := by simpa [upTo] using hi
    simp [upTo, hi']
def inB (i : Int) : Bool := decide (-(2 ^ 62) ≤ i) && decide (i < 2 ^ 62)
theorem inB_ok {i : Int} (h : inB i = true) : -(2 ^ 62) ≤ i ∧ i < 2 ^ 62 := by
  unfold inB at h
  simpa using h
def range1 : List D → Res (List D)
  | [.int j] => if inB j = true then .ok (upTo 0 j.toNat) else .stuck
  | _ => .stuck
def range2 : List D → Res (List D)
  | [.int i, .int j] => if inB i = true ∧ inB j = true then .ok (upTo i (j - i).toNat) else .stuck
  | _ => .stuck
theorem mi_range1 {a : Expr} {g : MM (List D)} {p : Pos} (hg : Gl X "range") (hm : X.mg "range" = none) (ha : PA X [a] (mA X.K T c W g)) (hs : starEach [a] X.env = [(false, eval a X.env)] := by rfl) :
    PI X tg (.Call (.Name "range" p) [a] [] pos) (mI X.K T c W (relD X.K) (MM.bind g fun ds => lift (range1 ds))) := by
  refine ⟨fun pins s σ H R I h => (pi_range1 (tg := tg) hg hm ha hs).run pins s σ H R I ?_⟩
  obtain ⟨G, ρ, j, p⟩ := h
  refine pX_bind j p fun ds vs ρ1 G1 H1 l1 j1 r1 p1 => ?_
  cases r1 with
  | nil => exact p1.elim
  | cons d1 r1 =>
    cases r1 with
    | cons _ _ => cases d1 <;> exact p1.elim
    | nil =>
      cases d1 with
      | int k =>
        have p2 : pX X.K T c W (relI (relD X.K)) σ G1 R (lift (if inB k = true then .ok (upTo 0 k.toNat) else .stuck) ρ1) := p1
        by_cases hk : inB k = true
        · rw [if_pos hk] at p2
          exact ⟨k, rfl, (inB_ok hk).1, (inB_ok hk).2, p2 _ G1 H1 (Le.refl G1) j1 gives_range⟩
        · rw [if_neg hk] at p2
          exact p2.elim
      | _ => exact p1.elim
theorem mi_range2 {a b : Expr} {g : MM (List D)} {p : Pos} (hg : Gl X "range") (hm : X.mg "range" = none) (ha : PA X [a, b] (mA X.K T c W g)) (hs : starEach [a, b] X.env = [(false, eval a X.env), (false, eval b X.env)] := by rfl) (hs2 : starEach [b] X.env = [(false, eval b X.env)] := by rfl) :
    PI X tg (.Call (.Name "range" p) [a, b] [] pos) (mI X.K T c W (relD X.K) (MM.bind g fun ds => lift (range2 ds))) := by
  refine ⟨fun pins s σ H R I h => (pi_range2 (tg := tg) hg hm ha hs hs2).run pins s σ H R I ?_⟩
  obtain ⟨G, ρ, j, p⟩ := h
  refine pX_bind j p fun ds vs ρ1 G1 H1 l1 j1 r1 p1 => ?_
  cases r1 with
  | nil => exact p1.elim
  | cons d1 r1 =>
    cases r1 with
    | nil => cases d1 <;> exact p1.elim
    | cons d2 r1 =>
      cases r1 with
      | cons _ _ => cases d1 <;> (try exact p1.elim) <;> cases d2 <;> exact p1.elim
      | nil =>
        cases d1 with
        | int k =>
          cases d2 with
          | int l =>
            have p2 : pX X.K T c W (relI (relD X.K)) σ G1 R (lift (if inB k = true ∧ inB l = true then .ok (upTo k (l - k).toNat) else .stuck) ρ1) := p1
            by_cases hk : inB k = true ∧ inB l = true
            · rw [if_pos hk] at p2
              exact ⟨k, l, rfl, ⟨(inB_ok hk.1).1, (inB_ok hk.1).2, (inB_ok hk.2).1, (inB_ok hk.2).2⟩, p2 _ G1 H1 (Le.refl G1) j1 gives_range⟩
            · rw [if_neg hk] at p2
              exact p2.elim
          | _ => exact p1.elim
        | _ => cases d2 <;> exact p1.elim
/-! ### for, while -/
def forD (g : D → MSt → Option MSt) (b : MM Fl) : List D → MM Fl
  | [] => MM.pure .nx
  | x :: xs => fun ρ => match g x ρ with
    | none => .stuck
    | some ρ1 => match b ρ1 with
      | .ok .nx ρ2 => forD g b xs ρ2
      | .ok .ct ρ2 => forD g b xs ρ2
      | .ok .bk ρ2 => .ok .nx ρ2
      | .ok (.rt d) ρ2 => .ok (.rt d) ρ2
      | .exn y ρ2 => .exn y ρ2
      | .stuck => .stuck
theorem drop_cons {xs : List D} {i : Nat} {d : D} (h : xs[i]? = some d) : xs.drop i = d :: xs.drop (i + 1) := by
  obtain ⟨hi, e⟩ := List.getElem?_eq_some_iff.mp h
  rw [List.drop_eq_getElem_cons hi, e]
theorem ms_for {body : List Stmt} {vs : List Nat} {g : D → MSt → Option MSt} {b : MM Fl} {fi : MM (List D)} {rel : Wd → V → D → Prop} (hp : PassesOwn (model X.prog X.w) X.A X.env X.xe) (hc : X.calm = true) (hi : PI X tg iter (mI X.K T c W rel fi)) (hg : PG X tg (mG X.K T c rel vs g)) (hb : PSs X body (mS X.K T c W b))
    (hs : ∀ x, foldedSetIterable iter X.env x = pure x := by intro _; rfl) : PS X (.For tg iter body [] pos) (mS X.K T c W (MM.bind fi (forD g b))) := by
  refine ps_mono (ps_for hp hc hi hg hb hs) fun Dn σ H ⟨G, ρ, j, p⟩ => ?_
  refine pS_bind j p fun xs Jt ρ1 G1 H1 l1 j1 r1 p1 => ?_
  refine ⟨fun i m σ H => m = xs.length - i ∧ i ≤ xs.length ∧ ∃ G ρ, Le G1 G ∧ J X.K T c G H σ ρ ∧ pS X.K T c W Dn G (forD g b (xs.drop i) ρ), ⟨xs.length, by simp, Nat.zero_le _, G1, ρ1, Le.refl G1, j1, by simpa using p1⟩, ?_⟩
  rintro i m σ2 H2 ⟨rfl, hi, G2, ρ2, l2, j2, p2⟩
  by_cases hlt : i < xs.length
  · refine .inr ⟨r1.go i G2 H2 l2 j2.sub hlt, fun σ' H' => ∃ G ρ, Le G1 G ∧ J X.K T c G H' σ' ρ ∧ pS X.K T c W Dn G (forD g b (xs.drop (i + 1)) ρ), fun σ' H' q => ⟨xs.length - (i + 1), by omega, rfl, hlt, q⟩, fun x H3 y => ?_⟩
    obtain ⟨d, hd, q⟩ := r1.yld i G2 H2 x H3 l2 j2.sub hlt y
    obtain ⟨G3, l3, j3, dq⟩ : ∃ G3, Le G2 G3 ∧ J X.K T c G3 H3 σ2 ρ2 ∧ rel G3 x d := by
      rcases q with ⟨rfl, dq⟩ | ⟨p, o, hn, nt, rfl, dq⟩
      · exact ⟨G2, Le.refl _, j2, dq⟩
      · exact ⟨_, Le.upd (j2.fresh hn), j2.grow hn nt, dq⟩
    rw [drop_cons hd] at p2
    refine ⟨G3, ρ2, d, j3, dq, ?_⟩
    unfold forD at p2
    cases e : g d ρ2 with
    | none => rw [e] at p2; exact p2.elim
    | some ρ3 =>
      rw [e] at p2
      intro σ' G4 H4 _ l4 j4
      refine ⟨G4, ρ3, j4, ?_⟩
      have l : Le G1 G4 := (l2.trans l3).trans l4
      have p3 := pS.le (l3.trans l4) p2
      cases e2 : b ρ3 with
      | ok a ρ4 =>
        simp only [e2] at p3
        cases a with
        | nx => exact fun σ5 G5 H5 l5 j5 => ⟨G5, ρ4, l.trans l5, j5, pS.le l5 p3⟩
        | ct => exact fun σ5 G5 H5 l5 j5 => ⟨G5, ρ4, l.trans l5, j5, pS.le l5 p3⟩
        | bk => exact p3
        | rt d => exact p3
      | exn y ρ4 => simp only [e2] at p3; exact p3
      | stuck => simp only [e2] at p3; exact p3.elim
  · have e : i = xs.length := by omega
    subst e
    rw [List.drop_length] at p2
    exact .inl ⟨r1.stop G2 H2 l2 j2.sub, p2 σ2 G2 H2 (Le.refl G2) j2⟩
def whileD (t : MM Bool) (b : MM Fl) : Nat → MM Fl
  | 0 => stuck
  | n + 1 => MM.bind t fun k => if k = true then (fun ρ => match b ρ with
      | .ok .nx ρ2 => whileD t b n ρ2
      | .ok .ct ρ2 => whileD t b n ρ2
      | .ok .bk ρ2 => .ok .nx ρ2
      | .ok (.rt d) ρ2 => .ok (.rt d) ρ2
      | .exn y ρ2 => .exn y ρ2
      | .stuck => .stuck) else MM.pure .nx
theorem ms_while {t : Expr} {body : List Stmt} {g : MM Bool} {b : MM Fl} (n : MSt → Nat) (hp : PassesOwn (model X.prog X.w) X.A X.env X.xe) (ht : PT X t (mT X.K T c W g)) (hb : PSs X body (mS X.K T c W b)) :
    PS X (.While t body [] pos) (mS X.K T c W (fun ρ => whileD g b (n ρ) ρ)) := by
  refine ps_mono (ps_while hp ht hb) fun Dn σ H ⟨G, ρ, j, p⟩ => ?_
  refine ⟨fun m σ H => ∃ G ρ, J X.K T c G H σ ρ ∧ pS X.K T c W Dn G (whileD g b m ρ), ⟨n ρ, G, ρ, j, p⟩, ?_⟩
  rintro m σ2 H2 ⟨G2, ρ2, j2, p2⟩
  cases m with
  | zero => exact p2.elim
  | succ m =>
    refine pS_bind j2 p2 fun k k' ρ3 G3 H3 l3 j3 r3 p3 => ?_
    cases r3
    cases k with
    | false => exact p3 σ2 G3 H3 (Le.refl G3) j3
    | true =>
      refine ⟨fun σ' H' => ∃ G ρ, J X.K T c G H' σ' ρ ∧ pS X.K T c W Dn G (whileD g b m ρ), fun σ' H' q => ⟨m, Nat.lt_succ_self m, q⟩, G3, ρ3, j3, ?_⟩
      simp only [if_true] at p3
      cases e2 : b ρ3 with
      | ok a ρ4 =>
        simp only [e2] at p3
        cases a with
        | nx => exact fun σ5 G5 H5 l5 j5 => ⟨G5, ρ4, j5, pS.le l5 p3⟩
        | ct => exact fun σ5 G5 H5 l5 j5 => ⟨G5, ρ4, j5, pS.le l5 p3⟩
        | bk => exact p3
        | rt d => exact p3
      | exn y ρ4 => simp only [e2] at p3; exact p3
      | stuck => simp only [e2] at p3; exact p3.elim
end
end Mi
set_option Elab.async false
set_option linter.all false
set_option maxRecDepth 100000
set_option maxHeartbeats 4000000
namespace Mi
open PySem L2
theorem pe_ex {X : Cx} {e : Expr} {t : Gh → TE} (h : ∀ c, PE X e (t c)) : PE X e (fun σ H Q => ∃ c, t c σ H Q) := ⟨fun pins s σ H Q I ⟨c, q⟩ => (h c).run pins s σ H Q I q⟩
theorem pts_ex {X : Cx} {e : List Expr} {t : Gh → TT} (h : ∀ c, PTs X e (t c)) : PTs X e (fun σ H Q => ∃ c, t c σ H Q) := ⟨fun pins s σ H Q I ⟨c, q⟩ => (h c).run pins s σ H Q I q⟩
theorem pg_ex {X : Cx} {e : Expr} {t : Gh → TG} (h : ∀ c, PG X e (t c)) : PG X e (fun v σ H Q => ∃ c, t c v σ H Q) := ⟨fun pins s σ H v u Q I r ⟨c, q⟩ => (h c).run pins s σ H v u Q I r q⟩
theorem mts_nil {X : Cx} {T : Tb} {c : Gh} {W : WX} : PTs X [] (mT X.K T c W (MM.pure true)) := ⟨fun pins s σ H Q I ⟨G, ρ, j, p⟩ => pts_nil.run pins s σ H Q I (p.here j rfl)⟩
theorem mts_one {X : Cx} {T : Tb} {c : Gh} {W : WX} {e : Expr} {t : MM Bool} (h : PT X e (mT X.K T c W t)) : PTs X [e] (mT X.K T c W t) := pts_one h
theorem wipe_in {σ : St} {i : Nat} : ∀ {vs : List Nat}, i ∈ vs → i < σ.length → (wipe σ vs)[i]? = some none
  | [], h, _ => by cases h
  | v :: vs, h, hi => by
    show ((wipe σ vs).set v none)[i]? = some none
    by_cases z : i = v
    · subst z; rw [List.getElem?_set_self (by rw [wipe_length]; exact hi)]
    · rw [List.getElem?_set_ne (Ne.symm z)]
      exact wipe_in ((List.mem_cons.mp h).resolve_left z) hi
theorem wipe_wipe (σ : St) (vs : List Nat) : wipe (wipe σ vs) vs = wipe σ vs := by
  apply List.ext_getElem?
  intro i
  by_cases h : i ∈ vs
  · by_cases hi : i < σ.length
    · rw [wipe_in h (by rw [wipe_length]; exact hi), wipe_in h hi]
    · rw [List.getElem?_eq_none (by rw [wipe_length, wipe_length]; omega), List.getElem?_eq_none (by rw [wipe_length]; omega)]
  · rw [wipe_out h]
theorem wipeM_out {ρ : MSt} {i : Nat} : ∀ {vs : List Nat}, i ∉ vs → (wipeM ρ vs)[i]? = ρ[i]?
  | [], _ => rfl
  | v :: vs, h => by
    show ((wipeM ρ vs).set v none)[i]? = ρ[i]?
    rw [List.getElem?_set_ne (fun z => h (by rw [z]; exact List.mem_cons_self))]
    exact wipeM_out fun z => h (List.mem_cons_of_mem _ z)
def keepd : Option (Option S) → Option S
  | some (some (.d x)) => some (.d x)
  | _ => none
def restore (os : List Nat) (ρ ρ' : MSt) : MSt := (List.range ρ.length).map fun (i : Nat) => if i ∈ os then keepd ρ[i]? else (ρ'[i]?).getD none
theorem restore_at {os : List Nat} {ρ ρ' : MSt} {i : Nat} {s : S} (h : (restore os ρ ρ')[i]? = some (some s)) : (i ∈ os ∧ ∃ x, s = .d x ∧ ρ[i]? = some (some (.d x))) ∨ (i ∉ os ∧ ρ'[i]? = some (some s)) := by
  unfold restore at h
  rw [List.getElem?_map] at h
  cases e : (List.range ρ.length)[i]? with
  | none => rw [e] at h; cases h
  | some k =>
    rw [e] at h
    have hk : k = i := by
      obtain ⟨h1, h2⟩ := List.getElem?_eq_some_iff.mp e
      rw [← h2]; simp
    subst hk
    simp only [Option.map_some, Option.some.injEq] at h
    by_cases z : k ∈ os
    · rw [if_pos z] at h
      unfold keepd at h
      split at h
      · rename_i x hx
        cases h
        exact .inl ⟨z, x, rfl, hx⟩
      · cases h
    · rw [if_neg z] at h
      refine .inr ⟨z, ?_⟩
      cases q : ρ'[k]? with
      | none => rw [q] at h; cases h
      | some o => rw [q] at h; simp only [Option.getD_some] at h; rw [h]
theorem J.restore {K : Fg} {T : Tb} {c : Gh} {G G1 : Wd} {H H1 : Hp} {σ : St} {ρ1 ρe : MSt} {os : List Nat} (j1 : J K T c G1 H1 σ ρ1) (l : Le G1 G) (j : J K T c G H (L2.wipe σ os) (wipeM ρe os)) : J K T c G H σ (Mi.restore os ρ1 ρe) := by
  refine j.refit (by unfold Mi.restore; rw [List.length_map, List.length_range]; exact j1.len) (by rw [wipe_length]) fun i s e => ?_
  rcases restore_at e with ⟨z, x, rfl, q⟩ | ⟨z, q⟩
  · obtain ⟨v, h1, h2⟩ := j1.sl i _ q
    exact .inr ⟨x, v, rfl, h1, Dq.le h2 l⟩
  · exact .inl ⟨by rw [wipeM_out z]; exact q, wipe_out z⟩
def W0 : WX := fun _ _ _ _ => False
def compD (os : List Nat) (g : D → MSt → Option MSt) (t : MM Bool) (e : MM D) : List D → List D → MM (List D)
  | [], acc => MM.pure acc
  | x :: xs, acc => fun ρ => match g x (wipeM ρ os) with
    | none => .stuck
    | some ρ1 => match t ρ1 with
      | .ok true ρ2 => match e ρ2 with
        | .ok y ρ3 => if acc.length < sizeLine then compD os g t e xs (acc ++ [y]) ρ3 else .stuck
        | _ => .stuck
      | .ok false ρ2 => compD os g t e xs acc ρ2
      | _ => .stuck
def compL (os : List Nat) (g : D → MSt → Option MSt) (t : MM Bool) (e : MM D) (xs : List D) : MM D := fun ρ => match compD os g t e xs [] ρ with
  | .ok ys ρe => .ok (.list ys) (restore os ρ ρe)
  | _ => .stuck
theorem upd_here {H : Hp} {a b : Addr} {o u : HO} (h : H a = some u) (n : H b = none) : upd H b o a = some u := by rw [upd_ne (ne_of_none h n)]; exact h
section
variable {X : Cx} {T : Tb} {c : Gh} {W : WX} {elt tg iter : Expr} {ifs : List Expr} {scope : Scope} {own : List (Str × Nat)} {pos spos : Pos} {fi : MM (List D)} {rel : Wd → V → D → Prop} {g : D → MSt → Option MSt} {t : MM Bool} {e : MM D} {os : List Nat}
abbrev xG (K : Fg) (T : Tb) (rel : Wd → V → D → Prop) (os : List Nat) (g : D → MSt → Option MSt) : TG := fun v σ H Q => ∃ c, mG K T c rel os g v σ H Q
abbrev xT (K : Fg) (T : Tb) (t : MM Bool) : TT := fun σ H Q => ∃ c, mT K T c W0 t σ H Q
abbrev xE (K : Fg) (T : Tb) (e : MM D) : TE := fun σ H Q => ∃ c, mE K T c W0 e σ H Q
theorem lc_to (σ : St) (H : Hp) (Q : VK) (h : mE X.K T c W (MM.bind fi (compL os g t e)) σ H Q) : tLc (mI X.K T c W rel fi) (xG X.K T rel os g) (xT X.K T t) (xE X.K T e) os σ H Q := by
  obtain ⟨G, ρ, j, p⟩ := h
  refine pX_bind j p fun xs Jt ρ1 G1 H1 l1 j1 r1 p1 => ?_
  intro D hD1
  have h0 : c.H0 D = none ∨ D ∈ c.M := j1.H0none hD1
  have pc0 : (match compD os g t e xs [] ρ1 with | .ok ys ρe => ∀ v G' H', Le G1 G' → J X.K T c G' H' σ (restore os ρ1 ρe) → Dq X.K G' v (.list ys) → Q v H' | _ => False) := by
    unfold compL at p1
    cases q : compD os g t e xs [] ρ1 with
    | ok ys ρe => rw [q] at p1; exact p1
    | exn y ρe => rw [q] at p1; exact p1.elim
    | stuck => rw [q] at p1; exact p1.elim
  refine ⟨fun i m H => m = xs.length - i ∧ i ≤ xs.length ∧ ∃ G ρb vs acc, Le G1 G ∧ J X.K T c G H (wipe σ os) (wipeM ρb os) ∧ H D = some (.lst vs) ∧ G D = none ∧ DqAll X.K G vs acc ∧ (D ∉ owns (wipe σ os) (wipeM ρb os) ∧ D ∉ G.m) ∧
      (match compD os g t e (xs.drop i) acc ρb with | .ok ys ρe => ∀ v G' H', Le G1 G' → J X.K T c G' H' σ (restore os ρ1 ρe) → Dq X.K G' v (.list ys) → Q v H' | _ => False),
    ⟨xs.length, by simp, Nat.zero_le _, G1, ρ1, [], [], Le.refl G1, (j1.wipe os).aside hD1, upd_same, j1.fresh hD1, .nil, ⟨(j1.wipe os).notOwn hD1, j1.freshM hD1⟩, by simpa using pc0⟩, ?_⟩
  rintro i m H2 ⟨rfl, hi, G2, ρb, vs, acc, l2, j2, hD, hGD, dqa, no, pc⟩
  by_cases hlt : i < xs.length
  · refine .inr ⟨r1.go i G2 H2 l2 j2.sub hlt, fun H => ∃ G ρb vs acc, Le G1 G ∧ J X.K T c G H (wipe σ os) (wipeM ρb os) ∧ H D = some (.lst vs) ∧ G D = none ∧ DqAll X.K G vs acc ∧ (D ∉ owns (wipe σ os) (wipeM ρb os) ∧ D ∉ G.m) ∧
        (match compD os g t e (xs.drop (i + 1)) acc ρb with | .ok ys ρe => ∀ v G' H', Le G1 G' → J X.K T c G' H' σ (restore os ρ1 ρe) → Dq X.K G' v (.list ys) → Q v H' | _ => False),
      fun H' q => ⟨xs.length - (i + 1), by omega, rfl, hlt, q⟩, fun x H3 y => ?_⟩
    obtain ⟨d, hd, q⟩ := r1.yld i G2 H2 x H3 l2 j2.sub hlt y
    obtain ⟨G3, l3, j3, dq, hD3, hGD3, nm3⟩ : ∃ G3, Le G2 G3 ∧ J X.K T c G3 H3 (wipe σ os) (wipeM ρb os) ∧ rel G3 x d ∧ H3 D = some (.lst vs) ∧ G3 D = none ∧ D ∉ G3.m := by
      rcases q with ⟨rfl, dq⟩ | ⟨p, o, hn, nt, rfl, dq⟩
      · exact ⟨G2, Le.refl _, j2, dq, hD, hGD, no.2⟩
      · exact ⟨_, Le.upd (j2.fresh hn), j2.grow hn nt, dq, upd_here hD hn, by show upd G2.hp p o D = none; rw [upd_ne (ne_of_none hD hn)]; exact hGD, no.2⟩
    rw [drop_cons hd] at pc
    unfold compD at pc
    cases eg : g d (wipeM ρb os) with
    | none => simp only [eg] at pc
    | some ρ2 =>
      simp only [eg] at pc
      refine ⟨here c G3 H3 (wipe σ os) (wipeM ρb os), G3, wipeM ρb os, d, j3.here, dq, ?_⟩
      rw [eg]
      intro σ' G4 H4 hw l4 j4
      have hw' : wipe σ' os = wipe σ os := by rw [hw, wipe_wipe]
      refine ⟨hw', here c G3 H3 (wipe σ os) (wipeM ρb os), G4, ρ2, j4, ?_⟩
      have fin : ∀ {G5 : Wd} {H5 : Hp} {ρ5 : MSt}, J X.K T (here c G3 H3 (wipe σ os) (wipeM ρb os)) G5 H5 σ' ρ5 → J X.K T c G5 H5 (wipe σ os) (wipeM ρ5 os) ∧ H5 D = some (.lst vs) ∧ G5 D = none ∧ D ∉ owns (wipe σ os) (wipeM ρ5 os) ∧ D ∉ G5.m := fun {G5 H5 ρ5} j5 => by
        have jw := j5.wipe os
        rw [hw'] at jw
        have nh := not_here (c := c) (H := H3) (G := G3) (σ := wipe σ os) (ρ := wipeM ρb os) ⟨no.1, nm3⟩
        have h3 : (here c G3 H3 (wipe σ os) (wipeM ρb os)).H0 D ≠ none := by show H3 D ≠ none; rw [hD3]; exact fun z => by cases z
        exact ⟨j3.back jw, j5.fr D _ hD3 nh (fun _ z => by cases z), j5.gn D hGD3 h3 nh, jw.apart h3 nh nm3⟩
      cases et : t ρ2 with
      | ok b ρ3 =>
        simp only [et] at pc
        intro b' G5 H5 l5 j5 rb
        cases rb
        cases b with
        | true =>
          rw [if_pos rfl]
          refine ⟨here c G3 H3 (wipe σ os) (wipeM ρb os), G5, ρ3, j5, ?_⟩
          cases ee : e ρ3 with
          | ok y ρ4 =>
            simp only [ee] at pc
            intro v G6 H6 l6 j6 dv
            obtain ⟨f1, f2, f3, f4⟩ := fin j6
            by_cases hz : acc.length < sizeLine
            · rw [if_pos hz] at pc
              have l : Le G2 G6 := ((l3.trans l4).trans l5).trans l6
              refine ⟨vs, f2, by rw [dqa.length]; exact hz, G6, ρ4, vs ++ [v], acc ++ [y], l2.trans l, f1.write f3 f2 (fun _ z => by cases z) (fun _ _ z => by unfold LamX.CodeO at z; cases z) h0 f4.1 f4.2, upd_same, f3, (dqa.le l).app (.one dv), f4, pc⟩
            · rw [if_neg hz] at pc
              exact pc.elim
          | exn y ρ4 => simp only [ee] at pc
          | stuck => simp only [ee] at pc
        | false =>
          rw [if_neg Bool.false_ne_true]
          obtain ⟨f1, f2, f3, f4⟩ := fin j5
          have l : Le G2 G5 := (l3.trans l4).trans l5
          exact ⟨G5, ρ3, vs, acc, l2.trans l, f1, f2, f3, dqa.le l, f4, pc⟩
      | exn y ρ3 => simp only [et] at pc
      | stuck => simp only [et] at pc
  · have ei : i = xs.length := by omega
    subst ei
    rw [List.drop_length] at pc
    refine .inl ⟨r1.stop G2 H2 l2 j2.sub, ?_⟩
    have js := j2.still hGD hD h0 no.1 no.2
    have l : Le G1 (wupd G2 D (.lst vs)) := l2.trans (Le.upd hGD)
    exact pc (.ref D) _ H2 l (j1.restore l js) (.lst (.inl upd_same) (dqa.le (Le.upd hGD)))
theorem me_lc (hc : X.calm = true) (hN : X.N.Nodup) (hi : PI X tg iter (mI X.K T c W rel fi)) (ok : BlkOk X.N X.env.scope scope own) (ho : own.map (·.2) = os)
    (hg : ∀ (c : Gh) (s : Shared) (H : Hp) (C : Addr) (cl : List (Str × Addr)) (fp : List Addr), PG (X.blk s H scope (compEnvC scope cl C X.env) fp) tg (mG X.K T c rel os g)) (ht : ∀ (c : Gh) (s : Shared) (H : Hp) (C : Addr) (cl : List (Str × Addr)) (fp : List Addr), PTs (X.blk s H scope (compEnvC scope cl C X.env) fp) ifs (mT X.K T c W0 t))
    (he : ∀ (c : Gh) (s : Shared) (H : Hp) (C : Addr) (cl : List (Str × Addr)) (fp : List Addr), PE (X.blk s H scope (compEnvC scope cl C X.env) fp) elt (mE X.K T c W0 e)) (hs : ∀ x, foldedSetIterable iter X.env x = pure x := by intro _; rfl) :
    PE X (.ListComp elt [⟨tg, iter, ifs, 0⟩] scope pos) (mE X.K T c W (MM.bind fi (compL os g t e))) := by
  subst ho
  exact pe_mono (pe_lc hc hN hi ok (fun s H C cl fp => pg_ex fun c => hg c s H C cl fp) (fun s H C cl fp => pts_ex fun c => ht c s H C cl fp) (fun s H C cl fp => pe_ex fun c => he c s H C cl fp) hs) lc_to
/-- name = [..] on one line -/
theorem ms_setLc {i : Nat} {y : Str} {py : Pos} (hc : X.calm = true) (hN : X.N.Nodup) (hy : X.N[i]? = some y) (hyl : X.env.scope.names.lookup y = some .local) (hsw : swapsWith (.ListComp elt [⟨tg, iter, ifs, 0⟩] scope pos) (some (.Name y py)) spos.line X.env = pure true)
    (hi : PI X tg iter (mI X.K T c W rel fi)) (ok : BlkOk X.N X.env.scope scope own) (ho : own.map (·.2) = os)
    (hg : ∀ (c : Gh) (s : Shared) (H : Hp) (C : Addr) (cl : List (Str × Addr)) (fp : List Addr), PG (X.blk s H scope (compEnvC scope cl C X.env) fp) tg (mG X.K T c rel os g)) (ht : ∀ (c : Gh) (s : Shared) (H : Hp) (C : Addr) (cl : List (Str × Addr)) (fp : List Addr), PTs (X.blk s H scope (compEnvC scope cl C X.env) fp) ifs (mT X.K T c W0 t))
    (he : ∀ (c : Gh) (s : Shared) (H : Hp) (C : Addr) (cl : List (Str × Addr)) (fp : List Addr), PE (X.blk s H scope (compEnvC scope cl C X.env) fp) elt (mE X.K T c W0 e)) (hs : ∀ x, foldedSetIterable iter X.env x = pure x := by intro _; rfl) :
    PS X (.Assign [.Name y py] (.ListComp elt [⟨tg, iter, ifs, 0⟩] scope pos) spos) (mS X.K T c W (asgS (MM.bind fi (compL os g t e)) (setD i))) := by
  subst ho
  refine ps_mono (ps_setLc hc hN hy hyl hsw hi ok (fun s H C cl fp => pg_ex fun c => hg c s H C cl fp) (fun s H C cl fp => pts_ex fun c => ht c s H C cl fp) (fun s H C cl fp => pe_ex fun c => he c s H C cl fp) hs) fun Dn σ H ⟨G, ρ, j, p⟩ => ?_
  refine lc_to σ H _ (pS_bind j p fun x v ρ1 G1 H1 l1 j1 r1 p1 => ?_)
  unfold setD at p1
  split at p1
  · rename_i hq
    split at hq
    · rename_i hl
      cases hq
      exact p1 _ G1 H1 (Le.refl G1) (j1.set hl r1)
    · cases hq
  · exact p1.elim
end
end Mi
set_option Elab.async false
set_option linter.all false
set_option maxRecDepth 100000
set_option maxHeartbeats 4000000
namespace Mi
open PySem L2
section
variable {X : Cx} {T : Tb} {c : Gh} {W : WX} {a b e : Expr} {f f1 f2 : MM D} {pos : Pos}
/-! ### operators on data -/
/-- an operator by a rule for each kind -/
theorem Op2.mk {f : Value → Value → Sem Value} {g : D → D → Res D} {r : R2} (h : OpR X f r)
    (k : ∀ G H x y d e q (Q : VK), Lh G H → Dq X.K G x d → Dq X.K G y e → g d e = .ok q → ((∀ v, Dq X.K G v q → Q v H) ∧ ∀ p o, H p = none → (∀ ps, o ≠ .tbl ps) → Dq X.K (wupd G p o) (.ref p) q → Q (.ref p) (upd H p o)) → r x y H Q)
    (nx : ∀ d e y, g d e ≠ .exn y) : Op2 X T c W f g := by
  refine ⟨r, h, fun σ ρ G H x y d e Q j dx dy p => ?_⟩
  cases q : g d e with
  | ok z =>
    rw [q] at p
    refine k G H x y d e z Q j.sub dx dy q ⟨fun v dv => p.here j dv, fun p' o hn nt dv => ?_⟩
    exact p _ _ _ (Le.upd (j.fresh hn)) (j.grow hn nt) dv
  | exn y => exact absurd q (nx d e y)
  | stuck => rw [q] at p; exact p.elim
def intOp (g : Int → Int → Res D) : D → D → Res D
  | .int i, .int j => g i j
  | _, _ => .stuck
def dSub : D → D → Res D := intOp fun i j => .ok (.int (i - j))
def dLtI : D → D → Res D := intOp fun i j => .ok (.bool (decide (i < j)))
def dLe : D → D → Res D := intOp fun i j => .ok (.bool (decide (i ≤ j)))
def dGt : D → D → Res D := intOp fun i j => .ok (.bool (decide (j < i)))
def dGe : D → D → Res D := intOp fun i j => .ok (.bool (decide (j ≤ i)))
def dFdiv : D → D → Res D := intOp fun i j => if 0 < j ∧ j.natAbs.log2 < 9000 then .ok (.int (i / j)) else .stuck
def dMod : D → D → Res D := intOp fun i j => if 0 < j then .ok (.int (i % j)) else .stuck
theorem o_sub : Op2 X T c W (binaryOp .Sub) dSub := Op2.mk op_sub (fun G H x y d e q Q l dx dy hq k => by
  cases dx <;> cases dy <;> first | (cases hq; exact ⟨_, _, rfl, rfl, k.1 _ (.int _)⟩) | (exact nomatch hq)) fun d e y z => by cases d <;> cases e <;> exact nomatch z
theorem o_le : Op2 X T c W (compareOp .LtE) dLe := Op2.mk op_le (fun G H x y d e q Q l dx dy hq k => by
  cases dx <;> cases dy <;> first | (cases hq; exact ⟨_, _, rfl, rfl, k.1 _ (.bl _)⟩) | (exact nomatch hq)) fun d e y z => by cases d <;> cases e <;> exact nomatch z
theorem o_gt : Op2 X T c W (compareOp .Gt) dGt := Op2.mk op_gt (fun G H x y d e q Q l dx dy hq k => by
  cases dx <;> cases dy <;> first | (cases hq; exact ⟨_, _, rfl, rfl, k.1 _ (.bl _)⟩) | (exact nomatch hq)) fun d e y z => by cases d <;> cases e <;> exact nomatch z
theorem o_ge : Op2 X T c W (compareOp .GtE) dGe := Op2.mk op_ge (fun G H x y d e q Q l dx dy hq k => by
  cases dx <;> cases dy <;> first | (cases hq; exact ⟨_, _, rfl, rfl, k.1 _ (.bl _)⟩) | (exact nomatch hq)) fun d e y z => by cases d <;> cases e <;> exact nomatch z
theorem ite_res {α : Type} {P : Prop} [Decidable P] {u v : α} (h : (if P then Res.ok u else .stuck) = .ok v) : P ∧ u = v := by
  by_cases p : P
  · rw [if_pos p] at h; cases h; exact ⟨p, rfl⟩
  · rw [if_neg p] at h; cases h
theorem ite_nx {α : Type} {P : Prop} [Decidable P] {u : α} {y : Exn} (h : (if P then Res.ok u else .stuck) = .exn y) : False := by
  by_cases p : P
  · rw [if_pos p] at h; cases h
  · rw [if_neg p] at h; cases h
theorem o_fdiv : Op2 X T c W (binaryOp .FloorDiv) dFdiv := Op2.mk op_fdivW (fun G H x y d e q Q l dx dy hq k => by
  cases dx with
  | int i =>
    cases dy with
    | int j => obtain ⟨p, rfl⟩ := ite_res hq; exact ⟨_, _, rfl, rfl, p, k.1 _ (.int _)⟩
    | _ => exact nomatch hq
  | _ => cases dy <;> exact nomatch hq) fun d e y z => by cases d <;> cases e <;> first | (exact ite_nx z) | (exact nomatch z)
theorem o_mod : Op2 X T c W (binaryOp .Mod) dMod := Op2.mk op_mod (fun G H x y d e q Q l dx dy hq k => by
  cases dx with
  | int i =>
    cases dy with
    | int j => obtain ⟨p, rfl⟩ := ite_res hq; exact ⟨_, _, rfl, rfl, p, k.1 _ (.int _)⟩
    | _ => exact nomatch hq
  | _ => cases dy <;> exact nomatch hq) fun d e y z => by cases d <;> cases e <;> first | (exact ite_nx z) | (exact nomatch z)
/-- < of ints, of texts -/
def dLt : D → D → Res D
  | .int i, .int j => .ok (.bool (decide (i < j)))
  | .str i, .str j => .ok (.bool (decide (i.cps.toList < j.cps.toList)))
  | _, _ => .stuck
theorem o_lt : Op2 X T c W (compareOp .Lt) dLt := Op2.mk (op_lt.or op_lt_str) (fun G H x y d e q Q l dx dy hq k => by
  cases dx <;> cases dy <;> first | (cases hq; exact .inl ⟨_, _, rfl, rfl, k.1 _ (.bl _)⟩) | (cases hq; exact .inr ⟨_, _, rfl, rfl, k.1 _ (.bl _)⟩) | (exact nomatch hq)) fun d e y z => by cases d <;> cases e <;> exact nomatch z
/-! ### lists: +, * -/
theorem inv_lst {pins : List (Addr × Obj)} {s : Shared} {σ : St} {H : Hp} {l : Addr} {xs : List V} (I : Inv X pins σ H s) (h : Rd H l (.lst xs)) : xs.length ≤ sizeLine ∧ ∃ (its : List Value) (n : Nat), Vals xs its ∧ xs.length = its.length ∧ s.heap.get? l = some { cls := .type "list", data := .seq its.toArray n } := by
  obtain ⟨z, its, n, r, e⟩ := h.ok I.hok
  exact ⟨z, its, n, r, r.length, e⟩
def rCatL : R2 := fun x y H Q => ∃ l b xs zs, x = .ref l ∧ y = .ref b ∧ Rd H l (.lst xs) ∧ Rd H b (.lst zs) ∧ xs.length + zs.length ≤ sizeLine ∧ ∀ p, H p = none → Q (.ref p) (upd H p (.lst (xs ++ zs)))
theorem op_catL : OpR X (binaryOp .Add) rCatL := by
  intro pins s σ H x y v u Q I rx ry h
  obtain ⟨l, b, xs, zs, rfl, rfl, hH, hB, hz, q⟩ := h
  cases rx
  cases ry
  obtain ⟨z, its, n, r, hl, e⟩ := inv_lst I hH
  obtain ⟨z2, its2, n2, r2, hl2, e2⟩ := inv_lst I hB
  refine PySem.P.add_list e e2 ?_ (by rw [List.size_toArray, List.size_toArray]; omega)
  have ea : its.toArray ++ its2.toArray = (its ++ its2).toArray := by simp
  rw [ea]
  exact ⟨.ref _, _, I.lnew (t' := s.toks) (r.append r2) (by rw [List.length_append]; omega), rfl, q _ I.fresh⟩
def rRepL : R2 := fun x y H Q => ∃ l k xs, x = .ref l ∧ y = .int k ∧ Rd H l (.lst xs) ∧ -(2 ^ 63) ≤ k ∧ k < 2 ^ 63 ∧ xs.length * k.toNat ≤ sizeLine ∧
  ∀ p, H p = none → Q (.ref p) (upd H p (.lst (List.replicate k.toNat xs).flatten))
theorem op_repL : OpR X (binaryOp .Mult) rRepL := by
  intro pins s σ H x y v u Q I rx ry h
  obtain ⟨l, k, xs, rfl, rfl, hH, h1, h2, hz, q⟩ := h
  cases rx
  obtain ⟨t, rfl⟩ := ry
  obtain ⟨z, its, n, r, hl, e⟩ := inv_lst I hH
  have hlen : its.toArray.size * k.toNat ≤ sizeLine := by rw [List.size_toArray, ← hl]; exact hz
  have hcap : ¬ its.toArray.size * k.toNat > (2 ^ 63 - 1) / 8 := by
    have : (sizeLine : Nat) ≤ (2 ^ 63 - 1) / 8 := by decide
    omega
  have hfit : ¬ (!Builtin.List.listFitsIndex k) = true := by
    rw [fitsIndex_both h1 h2]
    exact Bool.false_ne_true
  have hlong : ¬ Builtin.List.listTooLong (its.toArray.size * k.toNat) = true := by
    rw [notLongL hlen]
    exact Bool.false_ne_true
  have hnew : List.foldl (fun x1 x2 => x1 ++ x2) #[] (List.replicate (if its.toArray.isEmpty = true then 0 else k.toNat) its.toArray) = (List.replicate k.toNat its).flatten.toArray := by
    have f0 : ∀ m : Nat, List.foldl (fun x1 x2 => x1 ++ x2) #[] (List.replicate m its.toArray) = (List.replicate m its).flatten.toArray := fun m => by
      have := foldl_rep its m []
      rw [List.nil_append] at this
      exact this
    rw [f0]
    cases its with
    | nil => simp
    | cons a r' => rw [if_neg (by simp)]
  refine wpAny_binaryOp_repeat_ref (T := "list") (U := "int") (by decide) ⟨_, e, rfl⟩ (fun s' => typeIs_int s' k t) noFill_list_mul F.fills_int_mul F.slot_int_rmul repeat_list F.slot_int_index.lookup
    (call_meets F.slot_int_rmul (typeIs_int s k t) F.entry_int_rmul (F.args_int_rmul_2 _ _) (int___rmul___int_list k t l its.toArray n)
      ⟨e, rfl, ⟨_, e, rfl⟩, call_meets F.slot_list_mul ⟨_, e, rfl⟩ F.entry_list_mul (F.args_list_mul_2 _ _) (AutoListH.list___mul___list_int_3 l its.toArray n k t hfit hcap hlong) ⟨e, ?_⟩⟩)
  rw [hnew]
  exact ⟨.ref _, _, I.lnew (t' := s.toks) (r.rep k.toNat) (by rw [PyProof.Rows.lm_len_rep_flat, Nat.mul_comm]; exact hz), rfl, q _ I.fresh⟩
/-- t + u; a new tuple's object is told -/
def rCatF (K : Fg) : R2 := fun x y H Q => ∃ a b xs ys, x = .ref a ∧ y = .ref b ∧ SqT K H a xs ∧ SqT K H b ys ∧ xs.length + ys.length ≤ sizeLine ∧
  (xs = [] → Q (.ref b) H) ∧ (xs ≠ [] → ys = [] → Q (.ref a) H) ∧ (xs ≠ [] → ys ≠ [] → ∀ p o, H p = none → o.dict = none → Q (.ref p) (upd H p (.frz o (.tup (xs ++ ys)))))
theorem op_catF : OpR X (binaryOp .Add) (rCatF X.K) := by
  intro pins s σ H x y v u Q I rx ry h
  obtain ⟨a, b, xs, ys, rfl, rfl, ha, hb, hz, q0, q1, q2⟩ := h
  cases rx
  cases ry
  obtain ⟨its, r1, p1, _⟩ := I.tuple ha
  obtain ⟨its2, r2, p2, _⟩ := I.tuple hb
  by_cases hx : xs = []
  · subst hx
    cases r1
    exact cat_tup0 p1 p2 ⟨.ref b, H, I, rfl, q0 rfl⟩
  · refine HT.cat_tup p1 p2 (fun z => hx (r1.nil_iff.mp z)) (fun z => ⟨.ref a, H, I, rfl, q1 hx (r2.nil_iff.mp z)⟩) (fun z => ?_) (by rw [← r1.length, ← r2.length]; exact hz)
    exact laidT (t' := s.toks) I (r1.append r2) (by rw [List.length_append]; exact hz) (q2 hx (fun w => z (r2.nil_iff.mpr w)))
/-- + -/
def dAdd : D → D → Res D
  | .int i, .int j => .ok (.int (i + j))
  | .str i, .str j => if i.length + j.length ≤ sizeLine then .ok (.str (i ++ j)) else .stuck
  | .list xs, .list ys => if xs.length + ys.length ≤ sizeLine then .ok (.list (xs ++ ys)) else .stuck
  | .tuple xs, .tuple ys => if xs.length + ys.length ≤ sizeLine then .ok (.tuple (xs ++ ys)) else .stuck
  | _, _ => .stuck
theorem o_add : Op2 X T c W (binaryOp .Add) dAdd := Op2.mk (op_add.or (op_add_str.or (op_catL.or op_catF))) (fun G H x y d e q Q l dx dy hq k => by
  cases dx with
  | int i => cases dy <;> first | (cases hq; exact .inl ⟨_, _, rfl, rfl, k.1 _ (.int _)⟩) | (exact nomatch hq)
  | str i => cases dy <;> first | (obtain ⟨p, rfl⟩ := ite_res hq; exact .inr (.inl ⟨_, _, rfl, rfl, p, k.1 _ (.str _)⟩)) | (exact nomatch hq)
  | lst h1 h2 =>
    cases dy with
    | lst h3 h4 =>
      obtain ⟨p, rfl⟩ := ite_res hq
      refine .inr (.inr (.inl ⟨_, _, _, _, rfl, rfl, l.sub.rd _ _ (fun _ _ z => by cases z) h1, l.sub.rd _ _ (fun _ _ z => by cases z) h3, by rw [h2.length, h4.length]; exact p, fun p hp => k.2 p _ hp (by intro _ z; cases z) ?_⟩))
      have hG : G p = none := by
        cases z : G p with
        | none => rfl
        | some o => have := l p o z; rw [hp] at this; cases this
      exact .lst (.inl upd_same) ((h2.app h4).le (Le.upd hG))
    | _ => exact nomatch hq
  | tup h1 h2 =>
    cases dy with
    | tup h3 h4 =>
      obtain ⟨p, rfl⟩ := ite_res hq
      refine .inr (.inr (.inr ⟨_, _, _, _, rfl, rfl, sqT_sub h1.sq l.sub, sqT_sub h3.sq l.sub, by rw [h2.length, h4.length]; exact p, fun e => ?_, fun _ e => ?_, fun _ _ p o hp ho => k.2 p _ hp (by intro _ z; cases z) ?_⟩))
      · subst e
        cases h2
        exact k.1 _ (.tup h3 h4)
      · subst e
        cases h4
        rw [List.append_nil] at k
        exact k.1 _ (.tup h1 h2)
      · have hG : G p = none := by
          cases z : G p with
          | none => rfl
          | some o => have := l p o z; rw [hp] at this; cases this
        exact .tup (.inl ⟨o, upd_same, ho⟩) ((h2.app h4).le (Le.upd hG))
    | _ => exact nomatch hq
  | _ => cases dy <;> exact nomatch hq) fun d e y z => by cases d <;> cases e <;> first | (exact ite_nx z) | (exact nomatch z)
/-- * -/
def mulOk (i j : Int) : Bool := decide (-(2 ^ 64) < i) && decide (i < 2 ^ 64) || decide (-(2 ^ 64) < j) && decide (j < 2 ^ 64) || decide (i.natAbs.log2 + j.natAbs.log2 < 1000000)
def dMul : D → D → Res D
  | .int i, .int j => if mulOk i j = true then .ok (.int (i * j)) else .stuck
  | .list xs, .int k => if -(2 ^ 63) ≤ k ∧ k < 2 ^ 63 ∧ xs.length * k.toNat ≤ sizeLine then .ok (.list (List.replicate k.toNat xs).flatten) else .stuck
  | _, _ => .stuck
theorem DqAll.rep {K : Fg} {G : Wd} {vs : List V} {ds : List D} (h : DqAll K G vs ds) : ∀ n : Nat, DqAll K G (List.replicate n vs).flatten (List.replicate n ds).flatten
  | 0 => .nil
  | n + 1 => by
    rw [List.replicate_succ, List.replicate_succ, List.flatten_cons, List.flatten_cons]
    exact h.app (DqAll.rep h n)
theorem o_mul : Op2 X T c W (binaryOp .Mult) dMul := Op2.mk (op_mul.or (op_mulW.or op_repL)) (fun G H x y d e q Q l dx dy hq k => by
  cases dx with
  | int i =>
    cases dy with
    | int j =>
      obtain ⟨p, rfl⟩ := ite_res hq
      unfold mulOk at p
      simp only [Bool.or_eq_true, Bool.and_eq_true, decide_eq_true_eq] at p
      rcases p with p | p
      · exact .inl ⟨_, _, rfl, rfl, p, k.1 _ (.int _)⟩
      · exact .inr (.inl ⟨_, _, rfl, rfl, p, k.1 _ (.int _)⟩)
    | _ => exact nomatch hq
  | lst h1 h2 =>
    cases dy with
    | int j =>
      obtain ⟨⟨p1, p2, p3⟩, rfl⟩ := ite_res hq
      refine .inr (.inr ⟨_, _, _, rfl, rfl, l.sub.rd _ _ (fun _ _ z => by cases z) h1, p1, p2, by rw [h2.length]; exact p3, fun p hp => k.2 p _ hp (by intro _ z; cases z) ?_⟩)
      have hG : G p = none := by
        cases z : G p with
        | none => rfl
        | some o => have := l p o z; rw [hp] at this; cases this
      exact .lst (.inl upd_same) ((h2.rep _).le (Le.upd hG))
    | _ => exact nomatch hq
  | _ => cases dy <;> exact nomatch hq) fun d e y z => by cases d <;> cases e <;> first | (exact ite_nx z) | (exact nomatch z)
/-! ### ==, != -/
mutual
def noDict : D → Bool
  | .dict _ => false
  | .loc _ => false
  | .list xs => noDicts xs
  | .tuple xs => noDicts xs
  | _ => true
def noDicts : List D → Bool
  | [] => true
  | x :: xs => noDict x && noDicts xs
end
mutual
theorem dp_of {K : Fg} {G : Wd} : ∀ {v : V} {d : D}, Dq K G v d → noDict d = true → Dp K G v d.py
  | _, _, .non, _ => .non
  | _, _, .bl b, _ => .bl b
  | _, _, .int i, _ => .int i
  | _, _, .str x, _ => .str x
  | _, _, .lst h t, n => .lst (.inl h) (dpAll_of t n)
  | _, _, .tup h t, n => .tup h.sq (dpAll_of t n)
  | _, _, .dic h t, n => by cases n
  | _, _, .loc h, n => by cases n
theorem dpAll_of {K : Fg} {G : Wd} : ∀ {vs : List V} {ds : List D}, DqAll K G vs ds → noDicts ds = true → DpAll K G vs (pys ds)
  | _, _, .nil, _ => .nil
  | _, _, .cons h t, n => by
    obtain ⟨n1, n2⟩ := Bool.and_eq_true_iff.mp (show (noDict _ && noDicts _) = true from n)
    exact .cons (dp_of h n1) (dpAll_of t n2)
end
def eqOk (d : D) : Bool := noDict d && SeqAt.shaped d.py
def dEq (d e : D) : Res D := if eqOk d = true ∧ eqOk e = true then .ok (.bool (D.eqv d e)) else .stuck
def dNe (d e : D) : Res D := if eqOk d = true ∧ eqOk e = true then .ok (.bool (!D.eqv d e)) else .stuck
theorem o_eq (hu : X.A.units + 64 < cLine) : Op2 X T c W (compareOp .Eq) dEq := Op2.mk (op_eqD hu) (fun G H x y d e q Q l dx dy hq k => by
  obtain ⟨⟨p1, p2⟩, rfl⟩ := ite_res hq
  obtain ⟨n1, s1⟩ := Bool.and_eq_true_iff.mp p1
  obtain ⟨n2, s2⟩ := Bool.and_eq_true_iff.mp p2
  exact ⟨d.py, e.py, dp_of (dx.up l) n1, dp_of (dy.up l) n2, s1, s2, k.1 _ (.bl _)⟩) fun d e y z => ite_nx z
theorem o_ne (hu : X.A.units + 64 < cLine) : Op2 X T c W (compareOp .NotEq) dNe := Op2.mk (op_neD hu) (fun G H x y d e q Q l dx dy hq k => by
  obtain ⟨⟨p1, p2⟩, rfl⟩ := ite_res hq
  obtain ⟨n1, s1⟩ := Bool.and_eq_true_iff.mp p1
  obtain ⟨n2, s2⟩ := Bool.and_eq_true_iff.mp p2
  exact ⟨d.py, e.py, dp_of (dx.up l) n1, dp_of (dy.up l) n2, s1, s2, k.1 _ (.bl _)⟩) fun d e y z => ite_nx z
/-! ### is, is not: None, True, False on the right -/
def isNone : D → Bool
  | .none => true
  | _ => false
def dIs : D → D → Res D
  | d, .none => .ok (.bool (isNone d))
  | .bool a, .bool b => .ok (.bool (decide (a = b)))
  | _, _ => .stuck
def dIsNot : D → D → Res D
  | d, .none => .ok (.bool (!isNone d))
  | .bool a, .bool b => .ok (.bool (!decide (a = b)))
  | _, _ => .stuck
theorem dq_none {K : Fg} {G : Wd} {v : V} {d : D} (h : Dq K G v d) : decide (v = .non) = isNone d := by
  cases h <;> first | rfl | exact decide_eq_false (fun z => nomatch z)
theorem o_is : Op2 X T c W (compareOp .Is) dIs := Op2.mk (op_isN.or op_is_bl) (fun G H x y d e q Q l dx dy hq k => by
  cases dy with
  | non => cases d <;> (cases hq; refine .inl ⟨rfl, ?_⟩; rw [dq_none dx]; exact k.1 _ (.bl _))
  | bl b =>
    cases dx with
    | bl a => cases hq; exact .inr ⟨_, _, rfl, rfl, k.1 _ (.bl _)⟩
    | _ => exact nomatch hq
  | _ => cases dx <;> exact nomatch hq) fun d e y z => by cases d <;> cases e <;> exact nomatch z
theorem o_isNot : Op2 X T c W (compareOp .IsNot) dIsNot := Op2.mk (op_notN.or op_isnot_bl) (fun G H x y d e q Q l dx dy hq k => by
  cases dy with
  | non => cases d <;> (cases hq; refine .inl ⟨rfl, ?_⟩; rw [dq_none dx]; exact k.1 _ (.bl _))
  | bl b =>
    cases dx with
    | bl a => cases hq; exact .inr ⟨_, _, rfl, rfl, k.1 _ (.bl _)⟩
    | _ => exact nomatch hq
  | _ => cases dx <;> exact nomatch hq) fun d e y z => by cases d <;> cases e <;> exact nomatch z
/-! ### in, not in -/
def flatD : D → Bool
  | .none | .bool _ | .int _ | .str _ => true
  | _ => false
def inSeq (x : D) (xs : List D) : Bool := xs.any fun y => D.eqv y x
/-- the key that a datum is -/
def keyOf : D → Option Key
  | .int i => some (.inl i)
  | .str s => some (.inr s)
  | _ => none
def hasKey (k : D) (kvs : List (D × D)) : Bool := kvs.any fun p => D.eqv p.1 k
def valAt (kvs : List (D × D)) (k : D) : Option D := (kvs.find? fun p => D.eqv p.1 k).map (·.2)
theorem keyOf_keyD {d : D} {k : Key} (h : keyOf d = some k) : d = keyD k := by
  cases d <;> first | (cases h; rfl) | (exact nomatch h)
theorem eqv_key (k k' : Key) : D.eqv (keyD k) (keyD k') = decide (k = k') := by
  cases k with
  | inl i => cases k' with
    | inl j => show (i == j) = _; rw [key_ll]
    | inr j => show false = _; rw [key_lr]
  | inr i => cases k' with
    | inl j => show false = _; rw [key_rl]
    | inr j =>
      show (i == j) = _
      rw [key_rr, Bool.beq_eq_decide_eq]
theorem dqkv_val {K : Fg} {G : Wd} {k : Key} : ∀ {kvs : List (Key × V)} {ds : List (D × D)}, DqKV K G kvs ds → (valV kvs k = none ∧ valAt ds (keyD k) = none) ∨ ∃ v d, valV kvs k = some v ∧ valAt ds (keyD k) = some d ∧ Dq K G v d
  | _, _, .nil => .inl ⟨rfl, rfl⟩
  | _, _, .cons (k := k') (v := v) (d := d) h t => by
    by_cases z : k' = k
    · refine .inr ⟨v, d, valV_pos z, ?_, h⟩
      unfold valAt
      rw [List.find?_cons, eqv_key]
      simp [z]
    · rcases dqkv_val (k := k) t with ⟨h1, h2⟩ | ⟨v2, d2, h1, h2, h3⟩
      · refine .inl ⟨(valV_neg z).trans h1, ?_⟩
        unfold valAt at h2 ⊢
        rw [List.find?_cons, eqv_key]
        simp only [z, decide_false]
        exact h2
      · refine .inr ⟨v2, d2, (valV_neg z).trans h1, ?_, h3⟩
        unfold valAt at h2 ⊢
        rw [List.find?_cons, eqv_key]
        simp only [z, decide_false]
        exact h2
theorem valAt_has (kvs : List (D × D)) (k : D) : (valAt kvs k).isSome = hasKey k kvs := by
  unfold valAt hasKey
  rw [Option.isSome_map, Bool.eq_iff_iff, List.find?_isSome, List.any_eq_true]
end
end Mi
set_option Elab.async false
set_option linter.all false
set_option maxRecDepth 100000
set_option maxHeartbeats 4000000
namespace Mi
open PySem L2
section
variable {X : Cx} {T : Tb} {c : Gh} {W : WX} {a b e : Expr} {f f1 f2 : MM D} {pos : Pos}
theorem le_none {G : Wd} {H : Hp} {p : Addr} (l : Lh G H) (h : H p = none) : G p = none := by
  cases z : G p with
  | none => rfl
  | some o => have := l p o z; rw [h] at this; cases this
theorem eqV_eqv {K : Fg} {G : Wd} {x y : V} {d e : D} (hx : Dq K G x d) (hy : Dq K G y e) (fx : flatD d = true) (fy : flatD e = true) : eqV x y = D.eqv d e := by
  cases hx <;> cases hy <;> first | rfl | (cases fx; done) | (cases fy; done)
theorem flat_V {K : Fg} {G : Wd} {x : V} {d : D} (hx : Dq K G x d) (fx : flatD d = true) : flatV x = true := by
  cases hx <;> first | rfl | (cases fx)
theorem flat_all {K : Fg} {G : Wd} : ∀ {xs : List V} {ds : List D}, DqAll K G xs ds → ds.all flatD = true → xs.all flatV = true
  | _, _, .nil, _ => rfl
  | _, _, .cons h t, n => by
    rw [List.all_cons, Bool.and_eq_true] at n ⊢
    exact ⟨flat_V h n.1, flat_all t n.2⟩
theorem in_all {K : Fg} {G : Wd} {x : V} {d : D} (hx : Dq K G x d) (fx : flatD d = true) : ∀ {xs : List V} {ds : List D}, DqAll K G xs ds → ds.all flatD = true → inV x xs = inSeq d ds
  | _, _, .nil, _ => rfl
  | _, _, .cons h t, n => by
    rw [List.all_cons, Bool.and_eq_true] at n
    unfold inV inSeq
    rw [List.any_cons, List.any_cons, eqV_eqv h hx n.1 fx]
    exact congrArg _ (in_all hx fx t n.2)
/-- in: a sign in a text, a flat thing in a list or tuple of such, a key in a dict -/
def inB0 (x y : D) : Option Bool := match y with
  | .str z => (match x with
    | .str s => (match s.cps.toList with
      | [ch] => some (decide (ch ∈ z.cps.toList))
      | _ => none)
    | _ => none)
  | .list ys => if flatD x = true ∧ ys.all flatD = true then some (inSeq x ys) else none
  | .tuple ys => if flatD x = true ∧ ys.all flatD = true then some (inSeq x ys) else none
  | .dict kvs => (match keyOf x with
    | some _ => some (hasKey x kvs)
    | none => none)
  | _ => none
def dIn (x y : D) : Res D := match inB0 x y with
  | some b => .ok (.bool b)
  | none => .stuck
def dNotIn (x y : D) : Res D := match inB0 x y with
  | some b => .ok (.bool !b)
  | none => .stuck
def rDIn (neg : Bool) : R2 := fun x y H Q => ∃ a o, y = .ref a ∧ DGet H a x o ∧ Q (.bl (if neg then !o.isSome else o.isSome)) H
theorem op_din (hu : X.A.units + 1 < cLine) : OpR X (compareOp .In) (rDIn false) := by
  intro pins s σ H x y v u Q I rx ry h
  obtain ⟨a, o, rfl, g, q⟩ := h
  cases ry
  exact d_in hu I g rx fun s' I' => ⟨.bl _, H, I', rfl, q⟩
theorem op_dnotin (hu : X.A.units + 1 < cLine) : OpR X (compareOp .NotIn) (rDIn true) := by
  intro pins s σ H x y v u Q I rx ry h
  obtain ⟨a, o, rfl, g, q⟩ := h
  cases ry
  exact d_notIn hu I g rx fun s' I' => ⟨.bl _, H, I', rfl, q⟩
theorem dq_key {K : Fg} {G : Wd} {v : V} {k : Key} (h : Dq K G v (keyD k)) : v = kV k := by
  cases k <;> (cases h; rfl)
theorem dqkv_has {K : Fg} {G : Wd} {k : Key} {kvs : List (Key × V)} {ds : List (D × D)} (h2 : DqKV K G kvs ds) : (valV kvs k).isSome = hasKey (keyD k) ds := by
  rw [← valAt_has]
  rcases dqkv_val (k := k) h2 with ⟨q1, q2⟩ | ⟨v, d, q1, q2, _⟩
  · rw [q1, q2]; rfl
  · rw [q1, q2]; rfl
theorem str_one {s : Str} {ch : Nat} (h : s.cps.toList = [ch]) : s = ⟨#[ch]⟩ := by
  obtain ⟨⟨l⟩⟩ := s
  simp only at h
  subst h
  rfl
def rInAll (K : Fg) (neg : Bool) : R2 := fun x y H Q => (∃ (ch : Nat) (z : Str), x = .str ⟨#[ch]⟩ ∧ y = .str z ∧ Q (.bl (if neg then !decide (ch ∈ z.cps.toList) else decide (ch ∈ z.cps.toList))) H) ∨ rIn K neg x y H Q ∨ rDIn neg x y H Q
theorem in_read {K : Fg} {neg : Bool} {G : Wd} {H : Hp} {x y : V} {d e : D} {b : Bool} {Q : VK} (l : Lh G H) (dx : Dq K G x d) (dy : Dq K G y e) (h : inB0 d e = some b) (q : Q (.bl (if neg then !b else b)) H) : rInAll K neg x y H Q := by
  cases dy with
  | str z =>
    cases dx with
    | str s =>
      unfold inB0 at h
      simp only at h
      split at h
      · rename_i ch hs
        cases h
        exact .inl ⟨ch, z, by rw [str_one hs], rfl, q⟩
      · cases h
    | _ => exact nomatch h
  | lst h1 h2 =>
    unfold inB0 at h
    simp only at h
    split at h
    · rename_i hp
      cases h
      refine .inr (.inl ⟨_, _, rfl, .inl (sqL_sub (.inl h1) l.sub), flat_V dx hp.1, flat_all h2 hp.2, ?_⟩)
      rw [in_all dx hp.1 h2 hp.2]; exact q
    · cases h
  | tup h1 h2 =>
    unfold inB0 at h
    simp only at h
    split at h
    · rename_i hp
      cases h
      refine .inr (.inl ⟨_, _, rfl, .inr (sqT_sub h1.sq l.sub), flat_V dx hp.1, flat_all h2 hp.2, ?_⟩)
      rw [in_all dx hp.1 h2 hp.2]; exact q
    · cases h
  | dic h1 h2 =>
    unfold inB0 at h
    simp only at h
    split at h
    · rename_i k hk
      cases h
      have e := keyOf_keyD hk
      subst e
      have ev := dq_key dx
      subst ev
      refine .inr (.inr ⟨_, _, rfl, .inl ⟨_, k, l.sub.rd _ _ (fun _ _ z => by cases z) h1.rd, rfl, rfl⟩, ?_⟩)
      rw [dqkv_has (k := k) h2]; exact q
    · cases h
  | _ => exact nomatch h
theorem o_in (hu : X.A.units + 1 < cLine) : Op2 X T c W (compareOp .In) dIn := Op2.mk (op_in_sign.or (op_in_seq.or (op_din hu))) (fun G H x y d e q Q l dx dy hq k => by
  unfold dIn at hq
  cases h : inB0 d e with
  | none => rw [h] at hq; cases hq
  | some b =>
    rw [h] at hq
    cases hq
    exact in_read (neg := false) l dx dy h (k.1 _ (.bl _))) fun d e y z => by
  unfold dIn at z
  split at z <;> cases z
theorem o_notIn (hu : X.A.units + 1 < cLine) : Op2 X T c W (compareOp .NotIn) dNotIn := Op2.mk (op_notIn_sign.or (op_notIn_seq.or (op_dnotin hu))) (fun G H x y d e q Q l dx dy hq k => by
  unfold dNotIn at hq
  cases h : inB0 d e with
  | none => rw [h] at hq; cases hq
  | some b =>
    rw [h] at hq
    cases hq
    exact in_read (neg := true) l dx dy h (k.1 _ (.bl _))) fun d e y z => by
  unfold dNotIn at z
  split at z <;> cases z
/-! ### items, slices -/
def dIx : D → D → Res D
  | .list xs, .int i => (match atI xs i with | some d => .ok d | none => .stuck)
  | .tuple xs, .int i => (match atI xs i with | some d => .ok d | none => .stuck)
  | .dict kvs, k => (match keyOf k with | some _ => (match valAt kvs k with | some d => .ok d | none => .stuck) | none => .stuck)
  | _, _ => .stuck
theorem dq_at {K : Fg} {G : Wd} {vs : List V} {ds : List D} {i : Int} {d : D} (h : DqAll K G vs ds) (e : atI ds i = some d) : ∃ v, atI vs i = some v ∧ Dq K G v d := by
  unfold atI at e ⊢
  rw [h.length]
  cases z : ixN ds.length i with
  | none => rw [z] at e; cases e
  | some k =>
    rw [z] at e
    obtain ⟨v, h1, h2⟩ := h.getD (i := k) (d := d) e
    exact ⟨v, h1, h2⟩
theorem ix_d (hu : X.A.units + 1 < cLine) : IxR X (fun x y H Q => ∃ a v, x = .ref a ∧ DGet H a y (some v) ∧ Q v H) := by
  intro value slice pins s σ H x y v u Q I rx ry h hs
  obtain ⟨a, w', rfl, g, q⟩ := h
  cases rx
  have hT := dict_typeIs I g
  have h2 : wpAny (model X.prog X.w) X.A (getItem (.ref a) u) (EP X pins σ Q) X.xe s := d_getItem hu I g ry fun w2 s3 I3 rw' => ⟨w', H, I3, rw', q⟩
  unfold PyProof.Rows.subscriptTail
  refine wpAny_bind ?_
  rw [getitemInPython_of_ne hT.not_modules]
  refine wpAny_bind (wpAny_specialOf hT PySem.F.slot_dict_getitem.lookup ?_)
  have fin : wpAny (model X.prog X.w) X.A (subscripted slice false (.ref a) u) (fun r s₃ => wpAny (model X.prog X.w) X.A (letTemporaryGo value (.ref a) r >>= fun _ => pure r) (EP X pins σ Q) X.xe s₃) X.xe s := by
    rw [hs]
    exact wpAny_operating (wpAny_mono h2 (fun r s₃ h₃ => wpAny_bind (wpAny_letTemporaryGo (wpAny_pure h₃))) fun _ _ x => x)
  first
    | exact wpAny_pure (wpAny_bind fin)
    | exact wpAny_bind (wpAny_pure (wpAny_bind fin))
    | exact wpAny_bind fin
def ixE (f1 f2 : MM D) : MM D := op2 dIx f1 f2
theorem me_ix (hu : X.A.units + 1 < cLine) (ha : PE X a (mE X.K T c W f1)) (hb : PE X b (mE X.K T c W f2)) (hs : PlainIx b) : PE X (.Subscript a b pos) (mE X.K T c W (op2 dIx f1 f2)) := by
  refine pe_mono (pe_ix (ix_list.or (ix_tup.or (ix_d hu))) ha hb hs) (op2_to fun σ ρ G H x y d e Q j dx dy p => ?_)
  cases dx with
  | lst h1 h2 =>
    cases dy with
    | int i =>
      rename_i ds
      have p2 : pX X.K T c W (relD X.K) σ G Q (lift (match atI ds i with | some d => Res.ok d | none => .stuck) ρ) := p
      cases z : atI ds i with
      | none => rw [z] at p2; exact p2.elim
      | some q =>
        rw [z] at p2
        obtain ⟨v, q1, q2⟩ := dq_at h2 z
        exact .inl ⟨_, _, i, v, rfl, rfl, sqL_sub (.inl h1) j.subH, q1, p2.here j q2⟩
    | _ => exact p.elim
  | tup h1 h2 =>
    cases dy with
    | int i =>
      rename_i ds
      have p2 : pX X.K T c W (relD X.K) σ G Q (lift (match atI ds i with | some d => Res.ok d | none => .stuck) ρ) := p
      cases z : atI ds i with
      | none => rw [z] at p2; exact p2.elim
      | some q =>
        rw [z] at p2
        obtain ⟨v, q1, q2⟩ := dq_at h2 z
        exact .inr (.inl ⟨_, _, i, v, rfl, rfl, sqT_sub h1.sq j.subH, q1, p2.here j q2⟩)
    | _ => exact p.elim
  | dic h1 h2 =>
    rename_i ad kvs ds
    have p2 : pX X.K T c W (relD X.K) σ G Q (lift (match keyOf e with | some _ => (match valAt ds e with | some d => Res.ok d | none => .stuck) | none => .stuck) ρ) := by
      cases e <;> exact p
    cases hk : keyOf e with
    | none => rw [hk] at p2; exact p2.elim
    | some k =>
      rw [hk] at p2
      have ee := keyOf_keyD hk
      subst ee
      have ev := dq_key dy
      subst ev
      rcases dqkv_val (k := k) h2 with ⟨q1, q2⟩ | ⟨v, d, q1, q2, q3⟩
      · simp only [q2] at p2; exact p2.elim
      · simp only [q2] at p2
        exact .inr (.inr ⟨_, v, rfl, .inl ⟨_, k, j.subH.rd _ _ (fun _ _ z => by cases z) h1.rd, rfl, q1.symm⟩, p2.here j q3⟩)
  | _ => exact p.elim
/-- a part of a slice -/
def partN : MM (Option Int) := MM.pure none
def partS (f : MM D) : MM (Option Int) := MM.bind f fun d => match d with
  | .int i => MM.pure (some i)
  | _ => stuck
abbrev relO : Wd → Option Int → Option Int → Prop := fun _ a b => a = b
theorem mo_none : PO X none (mX X.K T c W relO partN) := ⟨fun pins s σ H Q I ⟨G, ρ, j, p⟩ => po_none.run pins s σ H Q I (p.here j rfl)⟩
theorem mo_some (h : PE X e (mE X.K T c W f)) : PO X (some e) (mX X.K T c W relO (partS f)) := ⟨fun pins s σ H Q I ⟨G, ρ, j, p⟩ => (po_some h).run pins s σ H Q I (pX_bind j p fun x v ρ1 G1 H1 l1 j1 r1 p1 => by
  cases r1 with
  | int i => exact ⟨i, rfl, p1.here j1 rfl⟩
  | _ => exact p1.elim)⟩
def cutD (xs : List D) (lo hi : Option Int) : List D := (xs.drop (HT.sIx xs.length 0 lo)).take (HT.sIx xs.length xs.length hi - HT.sIx xs.length 0 lo)
theorem dq_cut {K : Fg} {G : Wd} {vs : List V} {ds : List D} (h : DqAll K G vs ds) (lo hi : Option Int) : DqAll K G (cutV vs lo hi) (cutD ds lo hi) := by
  unfold cutV cutD
  rw [h.length]
  exact (h.drop _).take _
def sliceD (x : D) (lo hi : Option Int) : Res D := match x with
  | .list xs => .ok (.list (cutD xs lo hi))
  | .tuple xs => .ok (.tuple (cutD xs lo hi))
  | .str z => if z.length ≤ sizeLine then .ok (.str (cutS z lo hi)) else .stuck
  | _ => .stuck
def sliceE (f : MM D) (lo hi : MM (Option Int)) : MM D := MM.bind f fun x => MM.bind lo fun l => MM.bind hi fun h => lift (sliceD x l h)
def rSlF (K : Fg) : V → Option Int → Option Int → Hp → VK → Prop := fun x lo hi H Q => ∃ a xs, x = .ref a ∧ SqT K H a xs ∧
  (HT.sIx xs.length 0 lo = 0 ∧ HT.sIx xs.length xs.length hi = xs.length → Q (.ref a) H) ∧ (¬ (HT.sIx xs.length 0 lo = 0 ∧ HT.sIx xs.length xs.length hi = xs.length) → ∀ p o, H p = none → o.dict = none → Q (.ref p) (upd H p (.frz o (.tup (cutV xs lo hi)))))
theorem sl_tupF : SlR X (rSlF X.K) := by
  intro pins s σ H x v vl vu lo hi sl Q I rx hs pl pu h
  obtain ⟨a, xs, rfl, hx, q1, q2⟩ := h
  cases rx
  obtain ⟨its, r, ht, hz⟩ := I.tuple hx
  have hlen : its.toArray.size = xs.length := by rw [List.size_toArray]; exact r.length.symm
  refine ⟨"tuple", _, PyProof.Rows.slot_tuple_getitem.lookup, ht.typeIs, ?_⟩
  by_cases hw : HT.sIx xs.length 0 lo = 0 ∧ HT.sIx xs.length xs.length hi = xs.length
  · exact getItem_tuple_whole ht hs pl pu (by rw [hlen]; exact hw) ⟨.ref a, H, I, rfl, q1 hw⟩
  · refine HT.getItem_tuple_cut ht hs pl pu (by rw [hlen]; exact hw) ?_ (by rw [hlen]; exact hz)
    rw [hlen]
    exact laidT (t' := s.toks) I ((r.drop (HT.sIx xs.length 0 lo)).take (HT.sIx xs.length xs.length hi - HT.sIx xs.length 0 lo)) (Nat.le_trans (cutV_length xs lo hi) hz) (q2 hw)
theorem me_slice {lo hi : Option Expr} {ml mh : MM (Option Int)} {p2 : Pos} (he : PE X e (mE X.K T c W f)) (hl : PO X lo (mX X.K T c W relO ml)) (hh : PO X hi (mX X.K T c W relO mh)) : PE X (.Subscript e (.Slice lo hi none p2) pos) (mE X.K T c W (sliceE f ml mh)) := by
  refine pe_mono (pe_slice (sl_list.or (sl_tupF.or sl_str)) he hl hh) fun σ H Q ⟨G, ρ, j, p⟩ => ?_
  refine pX_bind j p fun x v ρ1 G1 H1 l1 j1 r1 p1 => ?_
  refine pX_bind j1 p1 fun o1 o1' ρ2 G2 H2 l2 j2 r2 p2 => ?_
  cases r2
  refine pX_bind j2 p2 fun o2 o2' ρ3 G3 H3 l3 j3 r3 p3 => ?_
  cases r3
  have r4 := (r1.le l2).le l3
  cases r4 with
  | lst h1 h2 => exact .inl ⟨_, _, rfl, sqL_sub (.inl h1) j3.subH, fun p hp => p3 _ _ _ (Le.upd (j3.fresh hp)) (j3.grow hp) (.lst (.inl upd_same) ((dq_cut h2 _ _).le (Le.upd (j3.fresh hp))))⟩
  | tup h1 h2 =>
    refine .inr (.inl ⟨_, _, rfl, sqT_sub h1.sq j3.subH, fun hw => ?_, fun _ p o hp ho => p3 _ _ _ (Le.upd (j3.fresh hp)) (j3.grow hp) (j3.newT hp ho (dq_cut h2 _ _))⟩)
    rename_i ds
    have e : cutD ds o1 o2 = ds := by
      unfold cutD
      rw [h2.length] at hw
      rw [hw.1, hw.2]
      simp
    have p4 : pX X.K T c W (relD X.K) σ G3 Q (.ok (.tuple (cutD ds o1 o2)) ρ3) := p3
    rw [e] at p4
    exact p4.here j3 (.tup h1 h2)
  | str z =>
    have p4 : pX X.K T c W (relD X.K) σ G3 Q (lift (if z.length ≤ sizeLine then .ok (.str (cutS z o1 o2)) else .stuck) ρ3) := p3
    by_cases hz : z.length ≤ sizeLine
    · rw [if_pos hz] at p4
      exact .inr (.inr ⟨_, rfl, hz, p4.here j3 (.str _)⟩)
    · rw [if_neg hz] at p4
      exact p4.elim
  | _ => exact p3.elim
end
end Mi
set_option Elab.async false
set_option linter.all false
set_option maxRecDepth 100000
set_option maxHeartbeats 4000000
namespace Mi
open PySem L2
/-! ### defs -/
/-- what a def leaves of the heap -/
structure Kept (T : Tb) (G : Wd) (H : Hp) (G' : Wd) (H' : Hp) : Prop where
  g : Le G G'
  s : Lh G' H'
  n : ∀ a, G a = none → H a ≠ none → G' a = none
  k : ∀ a o, H a = some o → (∀ ps, o ≠ .tbl ps) → H' a = some o
  t : ∀ a ps, H a = some (.tbl ps) → ∃ ps', H' a = some (.tbl ps')
  tb : LamX.Tabs T H'
  nt : ∀ a ps, G' a ≠ some (.tbl ps)
  m : G'.m = G.m
theorem Kept.some {T : Tb} {G G' : Wd} {H H' : Hp} (q : Kept T G H G' H') {a : Addr} (h : ∃ o, H a = some o) : ∃ o, H' a = some o := by
  obtain ⟨o, h⟩ := h
  cases o with
  | tbl ps => obtain ⟨ps', e⟩ := q.t a ps h; exact ⟨_, e⟩
  | _ => exact ⟨_, q.k a _ h (fun _ z => by cases z)⟩
theorem J.after {K : Fg} {T : Tb} {c : Gh} {G G' : Wd} {H H' : Hp} {σ : St} {ρ : MSt} (j : J K T c G H σ ρ) (q : Kept T G H G' H') : J K T c G' H' σ ρ := by
  refine ⟨q.s, j.g0.trans q.g, fun a g0 h0 m => q.n a (j.gn a g0 h0 m) fun z => (j.H0none z).elim h0 m, fun a o e m t => q.k a o (j.fr a o e m t) t, fun a ps e => ?_, j.len, fun i s e ns => ?_, j.ow, j.ap, q.tb, q.nt, fun b μ e => ?_, ⟨fun a m => q.some (j.mj.hr a (by rw [← q.m]; exact m)), fun a m => j.mj.ow a (by rw [← q.m]; exact m), fun a m => j.mj.gr a (by rw [← q.m]; exact m), fun h => q.m.trans (j.mj.nm h)⟩⟩
  · obtain ⟨ps', h⟩ := j.ft a ps e
    exact q.t a ps' h
  · obtain ⟨v, e1, r⟩ := j.sl i s e ns
    refine ⟨v, e1, ?_⟩
    cases s with
    | sto b μ => cases ns
    | d x => exact Dq.le r q.g
    | ol xs =>
      obtain ⟨b, vs, e2, g, hh, r⟩ := r
      exact ⟨b, vs, e2, q.n b g (by rw [hh]; exact fun z => by cases z), q.k b _ hh (fun _ z => by cases z), r.le q.g⟩
    | od xs =>
      obtain ⟨b, vs, e2, g, hh, r⟩ := r
      exact ⟨b, vs, e2, q.n b g (by rw [hh]; exact fun z => by cases z), q.k b _ hh (fun _ z => by cases z), r.le q.g⟩
    | dc xs =>
      obtain ⟨e0, b, vs, e2, g, hh, r⟩ := r
      exact ⟨e0, b, vs, e2, q.n b g (by rw [hh]; exact fun z => by cases z), q.k b _ hh (fun _ z => by cases z), r.le q.g⟩
  · obtain ⟨s1, s3⟩ := j.st b μ e
    refine ⟨s1.keep q.g q.m (fun b g _ h => q.n b g h) fun b o e z => q.k b o e fun ps y => ?_, fun hb => ⟨(s3 hb).1, fun a m => (s3 hb).2 a (by rw [← q.m]; exact m)⟩⟩
    rcases z with z | ⟨x, z⟩
    · obtain ⟨_, o', h1, h2, _⟩ := s1.there z
      rw [e] at h1; cases h1; exact h2 ps y
    · rw [z] at y; cases y
/-- the promise of a def of data -/
def spF (K : Fg) (T : Tb) (f : List D → Res D) : Sp := fun vs H Q E => ∃ G ds, Lh G H ∧ (∀ a ps, G a ≠ some (.tbl ps)) ∧ LamX.Tabs T H ∧ (∀ a ∈ G.m, ∃ o, H a = some o) ∧ DqAll K G vs ds ∧ match f ds with
  | .ok d => ∀ v G' H', Kept T G H G' H' → Dq K G' v d → Q v H'
  | .exn e => ∀ cls dx G' H', Kept T G H G' H' → IsX K H' e cls dx → E cls dx H'
  | .stuck => False
def startM (n : Nat) (ds : List D) : MSt := ds.map (fun d => some (S.d d)) ++ List.replicate (n + 1 - ds.length) none
def endF : Out Fl → Res D
  | .ok (.rt d) _ => .ok d
  | .ok .nx _ => .ok .none
  | .exn e _ => .exn e
  | _ => .stuck
/-- n slots, m parameters -/
def runF (n m : Nat) (b : MM Fl) : List D → Res D := fun ds => if ds.length = m then endF (b (startM n ds)) else .stuck
theorem J.entry {K : Fg} {T : Tb} {G : Wd} {H : Hp} {vs : List V} {ds : List D} {N : List Str} (l : Lh G H) (nt : ∀ a ps, G a ≠ some (.tbl ps)) (tb : LamX.Tabs T H) (hm : ∀ a ∈ G.m, ∃ o, H a = some o) (dq : DqAll K G vs ds) (hn : vs.length ≤ N.length) : J K T ⟨H, G, [], 0, false⟩ G H (L2.start N vs) (startM N.length ds) := by
  have hl := dq.length
  have get : ∀ (i : Nat) s, (startM N.length ds)[i]? = some (some s) → ∃ d v, s = .d d ∧ (L2.start N vs)[i]? = some (some v) ∧ Dq K G v d := fun i s e => by
    unfold startM at e
    by_cases hi : i < ds.length
    · rw [List.getElem?_append_left (by simpa using hi), List.getElem?_map] at e
      cases q : ds[i]? with
      | none => rw [q] at e; cases e
      | some d =>
        rw [q] at e
        cases e
        obtain ⟨v, h1, h2⟩ := dq.getD q
        refine ⟨d, v, rfl, ?_, h2⟩
        unfold L2.start
        rw [List.getElem?_append_left (by simpa [hl] using hi), List.getElem?_map, h1]
        rfl
    · rw [List.getElem?_append_right (by simpa using hi), List.getElem?_replicate] at e
      split at e <;> cases e
  refine ⟨l, Le.refl G, fun _ h _ _ => h, fun _ _ e _ _ => e, fun _ ps e => ⟨ps, e⟩, ?_, fun i s e ns => ?_, fun i s a e o e2 => ?_, fun i k s t a b e1 e2 o1 o2 f1 f2 n => ?_, tb, nt, fun b μ e => ?_, ⟨hm, fun a m n => ?_, fun a m => .inl m, fun _ => rfl⟩⟩
  · unfold startM L2.start
    simp only [List.length_append, List.length_map, List.length_replicate]
    omega
  · obtain ⟨d, v, rfl, h1, h2⟩ := get i s e
    exact ⟨v, h1, h2⟩
  · obtain ⟨d, v, rfl, h1, h2⟩ := get i s e
    cases o
  · obtain ⟨d, v, rfl, h1, h2⟩ := get i s e1
    cases o1
  · obtain ⟨d, v, z, h1, h2⟩ := get _ _ e
    cases z
  · obtain ⟨i, s, e1, e2, e3⟩ := mem_owns.mp n
    obtain ⟨d, v, rfl, h1, h2⟩ := get i s e1
    cases e2
theorem J.kept {K : Fg} {T : Tb} {G G' : Wd} {H H' : Hp} {σ : St} {ρ : MSt} (j : J K T ⟨H, G, [], 0, false⟩ G' H' σ ρ) : Kept T G H G' H' :=
  ⟨j.g0, j.sub, fun a g h => j.gn a g h (by simp), fun a o e t => j.fr a o e (by simp) t, j.ft, j.tb, j.nt, j.mj.nm rfl⟩
section
variable {P : Program} {w : World} {K : Fg} {mg : Str → Option Value} {base : Heap} {T : Tb}
/-- a def by its body's mirror -/
abbrev cxX (P : Program) (w : World) (K : Fg) (mg : Str → Option Value) (base : Heap) (N : List Str) (qual : Str) (scope : Scope) (f : Addr) (cd : Value) (A : Around) (outer : List Env) (s : Shared) (H : Hp) (E : XK) : Cx := cxOf (L2N.CX P w) P w K mg base N qual scope f cd A outer s H E
theorem okN {x qual : Str} {st : Stmt} {f : Addr} {fd : FuncData} {N ps : List Str} {k : Nat} {sp : Sp} (F : Fun K x qual st f fd) (S : FnScope N ps (defScope st)) (len : ∀ vs H Q E, sp vs H Q E → vs.length = ps.length)
    (hb : ∀ (cdv : Value), cdv = fd.code → ∀ (A : Around) (outer : List Env) (s : Shared) (H : Hp) (vs : List V) (Q : VK) (E : XK), Room k (A.deeper (PyProof.Rows.envOfC qual (defScope st) s.heap.objs.size f cdv)) → sp vs H Q E →
      ∃ t, PSs (cxX P w K mg base N qual (defScope st) f cdv A outer s H E) (defBody st) t ∧ t { nx := fun _ H' => Q .non H', rt := Q } (L2.start N vs) H) : FnOk P w K mg base (L2N.CX P w) (k + 1) f fd ps sp := by
  obtain ⟨oc, od, kV, doc, pm, an, cdv, ct, osl, rfl, lk, hcd⟩ := F.ex
  exact fn_of lk hcd S len fun A outer s H vs Q E hr hsp => hb cdv rfl A outer s H vs Q E hr hsp
theorem fn_def {x qual : Str} {st : Stmt} {f : Addr} {fd : FuncData} {N ps : List Str} {k : Nat} {b : MM Fl} (F : Fun K x qual st f fd) (S : FnScope N ps (defScope st))
    (hb : ∀ (cdv : Value), cdv = fd.code → ∀ (A : Around) (outer : List Env) (s : Shared) (H : Hp) (E : XK) (c : Gh), Room k (A.deeper (PyProof.Rows.envOfC qual (defScope st) s.heap.objs.size f cdv)) →
      PSs (cxX P w K mg base N qual (defScope st) f cdv A outer s H E) (defBody st) (mS K T c (fun cls d _ H => E cls d H) b)) :
    FnOk P w K mg base (L2N.CX P w) (k + 1) f fd ps (spF K T (runF N.length ps.length b)) := by
  have hpl : ps.length ≤ N.length := by have := congrArg List.length S.pre; rw [List.length_take] at this; omega
  refine okN F S (fun vs H Q E h => ?_) fun cdv hcd A outer s H vs Q E hr h => ⟨_, hb cdv hcd A outer s H E ⟨H, h.choose, [], 0, false⟩ hr, ?_⟩
  · obtain ⟨G, ds, _, _, _, _, dq, p⟩ := h
    unfold runF at p
    by_cases z : ds.length = ps.length
    · rw [dq.length, z]
    · rw [if_neg z] at p; exact p.elim
  · have h2 := h.choose_spec
    generalize hG : h.choose = G at h2 ⊢
    obtain ⟨ds, l, nt, tb, hm, dq, p⟩ := h2
    unfold runF at p
    by_cases z : ds.length = ps.length
    · rw [if_pos z] at p
      refine ⟨G, startM N.length ds, J.entry l nt tb hm dq (by rw [dq.length, z]; exact hpl), ?_⟩
      cases e : b (startM N.length ds) with
      | ok fl ρ' =>
        rw [e] at p
        cases fl with
        | nx => exact fun σ' G' H' l' j' => p .non G' H' j'.kept .non
        | rt d => exact fun v σ' G' H' l' j' dv => p v G' H' j'.kept dv
        | bk => exact p.elim
        | ct => exact p.elim
      | exn y ρ' =>
        rw [e] at p
        exact fun cls dx σ' G' H' l' j' i => p cls dx G' H' j'.kept i
      | stuck => rw [e] at p; exact p.elim
    · rw [if_neg z] at p; exact p.elim
end
section
variable {X : Cx} {T : Tb} {c : Gh} {W : WX} {a b e : Expr} {f f1 f2 : MM D} {pos p : Pos}
/-- f(e, ..), f a def of data -/
def callE (fm : List D → Res D) (g : MM (List D)) : MM D := MM.bind g fun ds => lift (fm ds)
theorem call_to {g : MM (List D)} {fm : List D → Res D} (σ : St) (H : Hp) (Q : VK) (h : mE X.K T c W (callE fm g) σ H Q) : tCallS (spF X.K T fm) (WE W) (mA X.K T c W g) σ H Q := by
  obtain ⟨G, ρ, j, p⟩ := h
  refine pX_bind j p fun ds vs ρ1 G1 H1 l1 j1 r1 p1 => ⟨G1, ds, j1.sub, j1.nt, j1.tb, j1.mj.hr, r1, ?_⟩
  cases z : fm ds with
  | ok d =>
    rw [z] at p1
    exact fun v G' H' q dv => p1 v G' H' q.g (j1.after q) dv
  | exn y =>
    rw [z] at p1
    exact fun cls dx G' H' q i => p1 cls dx G' H' q.g (j1.after q) i
  | stuck => rw [z] at p1; exact p1.elim
theorem me_call {x : Str} {es : List Expr} {g : MM (List D)} {k : Nat} {fa : Addr} {fd : FuncData} {ps : List Str} {fm : List D → Res D} (F : FnOk X.prog X.w X.K X.mg X.base (L2N.CX X.prog X.w) k fa fd ps (spF X.K T fm)) (hr : Room k X.A) (hg : Gl X x) (hm : X.mg x = some (.ref fa)) (hk : PySem.W.keepIn X.K (.ref fa) = true)
    (hb : Binds X.K fd ps []) (tk : L2N.Takes X W) (ha : PA X (e :: es) (mA X.K T c W g)) (hdb : (x == ("__debug__" : Str)) = false := by decide) (he : starEach (e :: es) X.env = (false, eval e X.env) :: starEach es X.env := by rfl) (hpl : (backTo pos (starEach es X.env)).any (·.1) = false := by rfl) :
    PE X (.Call (.Name x p) (e :: es) [] pos) (mE X.K T c W (callE fm g)) :=
  pe_mono (pe_callS F hr hg hm hk hb (fun σ => L2N.passAt tk σ) ha hdb he hpl) call_to
/-! ### built-ins -/
def Fn1 (X : Cx) (T : Tb) (c : Gh) (W : WX) (fv : Value) (g : List D → Res D) : Prop :=
  ∃ r : List V → Hp → VK → Prop, CallR X fv r ∧ ∀ σ ρ G H xs ds (Q : VK), J X.K T c G H σ ρ → DqAll X.K G xs ds → pX X.K T c W (relD X.K) σ G Q (lift (g ds) ρ) → r xs H Q
theorem CallR.or {fv : Value} {r r' : List V → Hp → VK → Prop} (h : CallR X fv r) (h' : CallR X fv r') : CallR X fv (fun xs H Q => r xs H Q ∨ r' xs H Q) := by
  intro pins s σ H xs us Q I rx q
  rcases q with q | q
  · exact h pins s σ H xs us Q I rx q
  · exact h' pins s σ H xs us Q I rx q
/-- the new object is locked for good -/
def LockQ (Q : VK) : VK := fun v H1 => ∃ d u, v = .ref d ∧ H1 d = some u ∧ Mut (some u) ∧ ∀ od, Q v (upd H1 d (.frz od u))
theorem CallR.lock {fv : Value} {r : List V → Hp → VK → Prop} (h : CallR X fv r) : CallR X fv (fun xs H Q => r xs H (LockQ Q)) := by
  intro pins s σ H xs us Q I rx q
  refine thn (h pins s σ H xs us _ I rx q) fun v s1 ⟨x, H1, I1, r1, d, u, e, hd, mu, k⟩ => ?_
  obtain ⟨od, I2⟩ := I1.lock hd mu
  exact ⟨x, _, I2, r1, k od⟩
theorem pe_lockV {te : TE} (h : PE X e te) : PE X e (fun σ H Q => te σ H (LockQ Q)) := by
  refine ⟨fun pins s σ H Q I q => ?_⟩
  refine thn (h.run pins s σ H _ I q) fun v s1 ⟨x, H1, I1, r1, d, u, e, hd, mu, k⟩ => ?_
  obtain ⟨od, I2⟩ := I1.lock hd mu
  exact ⟨x, _, I2, r1, k od⟩
theorem pss_lockV {sts : List Stmt} {t : TS} (h : PSs X sts t) : PSs X sts (fun Dn σ H => ∃ d u, H d = some u ∧ Mut (some u) ∧ ∀ od, t Dn σ (upd H d (.frz od u))) := by
  refine ⟨fun pins s σ H Dn I ⟨d, u, hd, mu, k⟩ => ?_⟩
  obtain ⟨od, I2⟩ := I.lock hd mu
  exact h.run pins s σ _ Dn I2 (k od)
theorem LockQ.new {Q : VK} {H : Hp} {p : Addr} {u : HO} (mu : Mut (some u)) (h : ∀ od, Q (.ref p) (upd H p (.frz od u))) : LockQ Q (.ref p) (upd H p u) :=
  ⟨p, u, rfl, upd_same, mu, fun od => by rw [upd_upd]; exact h od⟩
theorem Fn1.mk {fv : Value} {g : List D → Res D} {r : List V → Hp → VK → Prop} (h : CallR X fv r)
    (k : ∀ G H xs ds q (Q : VK), Lh G H → DqAll X.K G xs ds → g ds = .ok q → ((∀ v, Dq X.K G v q → Q v H) ∧ ∀ p o, H p = none → (∀ ps, o ≠ .tbl ps) → Dq X.K (wupd G p o) (.ref p) q → Q (.ref p) (upd H p o)) → r xs H Q)
    (nx : ∀ ds y, g ds ≠ .exn y) : Fn1 X T c W fv g := by
  refine ⟨r, h, fun σ ρ G H xs ds Q j dx p => ?_⟩
  cases q : g ds with
  | ok z =>
    rw [q] at p
    refine k G H xs ds z Q j.sub dx q ⟨fun v dv => p.here j dv, fun p' o hn nt dv => ?_⟩
    exact p _ _ _ (Le.upd (j.fresh hn)) (j.grow hn nt) dv
  | exn y => exact absurd q (nx ds y)
  | stuck => rw [q] at p; exact p.elim
theorem callB_to {g : MM (List D)} {fm : List D → Res D} {r : List V → Hp → VK → Prop} (k : ∀ σ ρ G H xs ds (Q : VK), J X.K T c G H σ ρ → DqAll X.K G xs ds → pX X.K T c W (relD X.K) σ G Q (lift (fm ds) ρ) → r xs H Q)
    (σ : St) (H : Hp) (Q : VK) (h : mE X.K T c W (callE fm g) σ H Q) : tCB r (mA X.K T c W g) σ H Q := by
  obtain ⟨G, ρ, j, p⟩ := h
  exact pX_bind j p fun ds vs ρ1 G1 H1 l1 j1 r1 p1 => k σ ρ1 G1 H1 vs ds Q j1 r1 p1
theorem me_callB {x : Str} {id : String} {es : List Expr} {g : MM (List D)} {fm : List D → Res D} (hc : Fn1 X T c W (.builtin id) fm) (hg : Gl X x) (hm : X.mg x = none) (hv : bootBuiltins x = some (.builtin id)) (ha : PA X (e :: es) (mA X.K T c W g)) (hn : x ≠ "__name__" := by decide) (hdb : (x == ("__debug__" : Str)) = false := by decide)
    (he : starEach (e :: es) X.env = (false, eval e X.env) :: starEach es X.env := by rfl) (hpl : (backTo pos (starEach es X.env)).any (·.1) = false := by rfl) : PE X (.Call (.Name x p) (e :: es) [] pos) (mE X.K T c W (callE fm g)) := by
  obtain ⟨r, h, k⟩ := hc
  exact pe_mono (pe_callB h hg hm hv ha hn hdb he hpl) (callB_to k)
theorem me_callTy {x : Str} {Ty : String} {es : List Expr} {g : MM (List D)} {fm : List D → Res D} (hc : Fn1 X T c W (.type Ty) fm) (hg : Gl X x) (hm : X.mg x = none) (hv : bootBuiltins x = some (.type Ty)) (ha : PA X (e :: es) (mA X.K T c W g)) (hn : x ≠ "__name__" := by decide) (hdb : (x == ("__debug__" : Str)) = false := by decide)
    (he : starEach (e :: es) X.env = (false, eval e X.env) :: starEach es X.env := by rfl) (hpl : (backTo pos (starEach es X.env)).any (·.1) = false := by rfl) : PE X (.Call (.Name x p) (e :: es) [] pos) (mE X.K T c W (callE fm g)) := by
  obtain ⟨r, h, k⟩ := hc
  exact pe_mono (pe_callTy h hg hm hv ha hn hdb he hpl) (callB_to k)
/-! ### isinstance -/
def tyN : D → String
  | .none => "NoneType" | .bool _ => "bool" | .int _ => "int" | .str _ => "str" | .list _ => "list" | .tuple _ => "tuple" | .dict _ => "dict" | .loc _ => ""
def isLoc : D → Bool
  | .loc _ => true
  | _ => false
theorem tyX_of {K : Fg} {G : Wd} {H : Hp} {v : V} {d : D} (l : Lh G H) (h : Dq K G v d) (nl : isLoc d = false) : TyX K H v (.type (tyN d)) := by
  cases h with
  | loc h => cases nl
  | non => exact .base .non
  | bl b => exact .base (.bl b)
  | int i => exact .base (.int i)
  | str x => exact .base (.str x)
  | lst h _ =>
    rcases h with h | ⟨o, h⟩
    · exact .base (.lst (l _ _ h))
    · exact .base (.frz (l _ _ h))
  | tup h _ =>
    rcases h with ⟨o, h, _⟩ | ⟨o, its, n, h, hc, _⟩
    · exact .fTuple (l _ _ h)
    · exact .kTuple h hc
  | dic h _ =>
    obtain ⟨o, h⟩ := h
    exact .fDict (l _ _ h)
def isiK (t : D → Bool) (d : D) : MM D := if isLoc d = true then stuck else MM.pure (.bool (t d))
def isiE (t : D → Bool) (f : MM D) : MM D := MM.bind f (isiK t)
theorem me_isi {Ty : String} {q : Str} {t : D → Bool} {p2 : Pos} (ht : ∀ d, isLoc d = false → kitB (tyN d) Ty = some (t d)) (hg : Gl X "isinstance") (hm : X.mg "isinstance" = none) (hgT : Gl X q) (hmT : X.mg q = none) (hvT : bootBuiltins q = some (.type Ty)) (ha : PE X a (mE X.K T c W f))
    (hv : bootBuiltins "isinstance" = some (.builtin "isinstance")) (hnT : q ≠ "__name__" := by decide) (hdT : (q == ("__debug__" : Str)) = false := by decide)
    (he : starEach (a :: [.Name q p2]) X.env = (false, eval a X.env) :: starEach [.Name q p2] X.env := by rfl) (he2 : starEach [.Name q p2] X.env = (false, eval (.Name q p2) X.env) :: starEach [] X.env := by rfl) (hpl : (backTo pos (starEach [.Name q p2] X.env)).any (·.1) = false := by rfl) :
    PE X (.Call (.Name "isinstance" p) [a, .Name q p2] [] pos) (mE X.K T c W (isiE t f)) := by
  refine pe_mono (pe_callB call_isi hg hm hv (pa_cons ha (pa_cons (pe_bltn (v := .ty Ty) hgT hmT hvT rfl hnT hdT) pa_nil he2) he) (by decide) (by decide) he hpl) fun σ H Q ⟨G, ρ, j, p⟩ => ?_
  refine pX_bind j p fun d v ρ1 G1 H1 l1 j1 r1 p1 => ?_
  unfold isiK at p1
  by_cases nl : isLoc d = true
  · rw [if_pos nl] at p1; exact p1.elim
  · rw [if_neg nl] at p1
    have nl : isLoc d = false := by simpa using nl
    exact ⟨v, .ty Ty, _, _, t d, rfl, .ty Ty, tyX_of j1.sub r1 nl, kit_ty (ht d nl), p1.here j1 (.bl _)⟩
def isInt : D → Bool
  | .int _ | .bool _ => true
  | _ => false
def isBool : D → Bool
  | .bool _ => true
  | _ => false
def isStr : D → Bool
  | .str _ => true
  | _ => false
def isTup : D → Bool
  | .tuple _ => true
  | _ => false
def isLst : D → Bool
  | .list _ => true
  | _ => false
def isDic : D → Bool
  | .dict _ => true
  | _ => false
theorem kit_int : ∀ d, isLoc d = false → kitB (tyN d) "int" = some (isInt d)
  | .none, _ => (by decide +kernel : kitB "NoneType" "int" = some false)
  | .bool _, _ => (by decide +kernel : kitB "bool" "int" = some true)
  | .int _, _ => (by decide +kernel : kitB "int" "int" = some true)
  | .str _, _ => (by decide +kernel : kitB "str" "int" = some false)
  | .list _, _ => (by decide +kernel : kitB "list" "int" = some false)
  | .tuple _, _ => (by decide +kernel : kitB "tuple" "int" = some false)
  | .dict _, _ => (by decide +kernel : kitB "dict" "int" = some false)
  | .loc _, z => by cases z
theorem kit_bool : ∀ d, isLoc d = false → kitB (tyN d) "bool" = some (isBool d)
  | .none, _ => (by decide +kernel : kitB "NoneType" "bool" = some false)
  | .bool _, _ => (by decide +kernel : kitB "bool" "bool" = some true)
  | .int _, _ => (by decide +kernel : kitB "int" "bool" = some false)
  | .str _, _ => (by decide +kernel : kitB "str" "bool" = some false)
  | .list _, _ => (by decide +kernel : kitB "list" "bool" = some false)
  | .tuple _, _ => (by decide +kernel : kitB "tuple" "bool" = some false)
  | .dict _, _ => (by decide +kernel : kitB "dict" "bool" = some false)
  | .loc _, z => by cases z
theorem kit_str : ∀ d, isLoc d = false → kitB (tyN d) "str" = some (isStr d)
  | .none, _ => (by decide +kernel : kitB "NoneType" "str" = some false)
  | .bool _, _ => (by decide +kernel : kitB "bool" "str" = some false)
  | .int _, _ => (by decide +kernel : kitB "int" "str" = some false)
  | .str _, _ => (by decide +kernel : kitB "str" "str" = some true)
  | .list _, _ => (by decide +kernel : kitB "list" "str" = some false)
  | .tuple _, _ => (by decide +kernel : kitB "tuple" "str" = some false)
  | .dict _, _ => (by decide +kernel : kitB "dict" "str" = some false)
  | .loc _, z => by cases z
theorem kit_tup : ∀ d, isLoc d = false → kitB (tyN d) "tuple" = some (isTup d)
  | .none, _ => (by decide +kernel : kitB "NoneType" "tuple" = some false)
  | .bool _, _ => (by decide +kernel : kitB "bool" "tuple" = some false)
  | .int _, _ => (by decide +kernel : kitB "int" "tuple" = some false)
  | .str _, _ => (by decide +kernel : kitB "str" "tuple" = some false)
  | .list _, _ => (by decide +kernel : kitB "list" "tuple" = some false)
  | .tuple _, _ => (by decide +kernel : kitB "tuple" "tuple" = some true)
  | .dict _, _ => (by decide +kernel : kitB "dict" "tuple" = some false)
  | .loc _, z => by cases z
theorem kit_lst : ∀ d, isLoc d = false → kitB (tyN d) "list" = some (isLst d)
  | .none, _ => (by decide +kernel : kitB "NoneType" "list" = some false)
  | .bool _, _ => (by decide +kernel : kitB "bool" "list" = some false)
  | .int _, _ => (by decide +kernel : kitB "int" "list" = some false)
  | .str _, _ => (by decide +kernel : kitB "str" "list" = some false)
  | .list _, _ => (by decide +kernel : kitB "list" "list" = some true)
  | .tuple _, _ => (by decide +kernel : kitB "tuple" "list" = some false)
  | .dict _, _ => (by decide +kernel : kitB "dict" "list" = some false)
  | .loc _, z => by cases z
theorem kit_dic : ∀ d, isLoc d = false → kitB (tyN d) "dict" = some (isDic d)
  | .none, _ => (by decide +kernel : kitB "NoneType" "dict" = some false)
  | .bool _, _ => (by decide +kernel : kitB "bool" "dict" = some false)
  | .int _, _ => (by decide +kernel : kitB "int" "dict" = some false)
  | .str _, _ => (by decide +kernel : kitB "str" "dict" = some false)
  | .list _, _ => (by decide +kernel : kitB "list" "dict" = some false)
  | .tuple _, _ => (by decide +kernel : kitB "tuple" "dict" = some false)
  | .dict _, _ => (by decide +kernel : kitB "dict" "dict" = some true)
  | .loc _, z => by cases z
end
end Mi
set_option Elab.async false
set_option linter.all false
set_option maxRecDepth 100000
set_option maxHeartbeats 4000000
namespace Mi
open PySem L2
section
variable {X : Cx} {T : Tb} {c : Gh} {W : WX} {a b e : Expr} {f f1 f2 : MM D} {pos p : Pos}
/-! ### len -/
def dLen : List D → Res D
  | [.list xs] => .ok (.int xs.length)
  | [.tuple xs] => .ok (.int xs.length)
  | [.str s] => if s.length ≤ sizeLine then .ok (.int s.length) else .stuck
  | [.dict kvs] => .ok (.int kvs.length)
  | _ => .stuck
theorem call_lenR : CallR X (.builtin "len") (fun xs H Q => ∃ a kvs, xs = [V.ref a] ∧ Rd H a (.dK kvs) ∧ Q (.int kvs.length) H) := by
  intro pins s σ H xs us Q I r h
  obtain ⟨a, kvs, rfl, ha, q⟩ := h
  obtain ⟨u, rfl, ru⟩ := vals1 r
  cases ru
  exact d_len I ha fun t s' I' => ⟨.int _, H, I', ⟨t, rfl⟩, q⟩
theorem b_len : Fn1 X T c W (.builtin "len") dLen := Fn1.mk (CallR.or call_len_seq (CallR.or call_len_str call_lenR)) (fun G H xs ds q Q l dq hq k => by
  cases dq with
  | nil => exact nomatch hq
  | cons d r =>
    cases r with
    | cons _ _ => cases d <;> exact nomatch hq
    | nil =>
      cases d with
      | lst h1 h2 => cases hq; exact .inl ⟨_, _, rfl, .inl (sqL_sub (.inl h1) l.sub), by rw [h2.length]; exact k.1 _ (.int _)⟩
      | tup h1 h2 => cases hq; exact .inl ⟨_, _, rfl, .inr (sqT_sub h1.sq l.sub), by rw [h2.length]; exact k.1 _ (.int _)⟩
      | str s => obtain ⟨p, rfl⟩ := ite_res hq; exact .inr (.inl ⟨_, rfl, p, k.1 _ (.int _)⟩)
      | dic h1 h2 => cases hq; exact .inr (.inr ⟨_, _, rfl, l.sub.rd _ _ (fun _ _ z => by cases z) h1.rd, by rw [h2.length]; exact k.1 _ (.int _)⟩)
      | _ => exact nomatch hq) fun ds y z => by
  unfold dLen at z
  split at z <;> first | (exact ite_nx z) | (exact nomatch z)
/-! ### all, any, sum -/
def toBools : List D → Option (List Bool)
  | [] => some []
  | .bool b :: r => (toBools r).map (b :: ·)
  | _ => none
def toInts : List D → Option (List Int)
  | [] => some []
  | .int i :: r => (toInts r).map (i :: ·)
  | _ => none
theorem vs_bools {K : Fg} {G : Wd} : ∀ {vs : List V} {ds : List D} {bs : List Bool}, DqAll K G vs ds → toBools ds = some bs → vs = bs.map V.bl
  | _, _, _, .nil, h => by cases h; rfl
  | _, _, _, .cons (d := d) h t, e => by
    cases h with
    | bl b =>
      unfold toBools at e
      cases q : toBools _ with
      | none => rw [q] at e; cases e
      | some r => rw [q] at e; cases e; rw [List.map_cons, vs_bools t q]
    | _ => exact nomatch e
theorem vs_ints {K : Fg} {G : Wd} : ∀ {vs : List V} {ds : List D} {bs : List Int}, DqAll K G vs ds → toInts ds = some bs → vs = bs.map V.int
  | _, _, _, .nil, h => by cases h; rfl
  | _, _, _, .cons (d := d) h t, e => by
    cases h with
    | int b =>
      unfold toInts at e
      cases q : toInts _ with
      | none => rw [q] at e; cases e
      | some r => rw [q] at e; cases e; rw [List.map_cons, vs_ints t q]
    | _ => exact nomatch e
def onBools (g : List Bool → D) : List D → Res D
  | [.list ds] => (match toBools ds with | some bs => .ok (g bs) | none => .stuck)
  | _ => .stuck
def onInts (g : List Int → Res D) : List D → Res D
  | [.list ds] => (match toInts ds with | some bs => g bs | none => .stuck)
  | _ => .stuck
def dAll : List D → Res D := onBools fun bs => .bool (bs.all id)
def dAny : List D → Res D := onBools fun bs => .bool (bs.any id)
def dSum : List D → Res D := onInts fun ns => .ok (.int ns.sum)
theorem onBools_ok {g : List Bool → D} {ds : List D} {q : D} (h : onBools g ds = .ok q) : ∃ es bs, ds = [.list es] ∧ toBools es = some bs ∧ q = g bs := by
  unfold onBools at h
  split at h
  · rename_i es
    cases z : toBools es with
    | none => rw [z] at h; cases h
    | some bs => rw [z] at h; cases h; exact ⟨es, bs, rfl, z, rfl⟩
  · cases h
theorem onBools_nx {g : List Bool → D} {ds : List D} {y : Exn} (h : onBools g ds = .exn y) : False := by
  unfold onBools at h
  split at h
  · split at h <;> cases h
  · cases h
theorem onInts_ok {g : List Int → Res D} {ds : List D} {q : D} (h : onInts g ds = .ok q) : ∃ es bs, ds = [.list es] ∧ toInts es = some bs ∧ g bs = .ok q := by
  unfold onInts at h
  split at h
  · rename_i es
    cases z : toInts es with
    | none => rw [z] at h; cases h
    | some bs => rw [z] at h; exact ⟨es, bs, rfl, z, h⟩
  · cases h
theorem onInts_nx {g : List Int → Res D} (hg : ∀ bs y, g bs ≠ .exn y) {ds : List D} {y : Exn} (h : onInts g ds = .exn y) : False := by
  unfold onInts at h
  split at h
  · split at h
    · exact hg _ _ h
    · cases h
  · cases h
theorem one_list {K : Fg} {G : Wd} {xs : List V} {es : List D} (h : DqAll K G xs [.list es]) : ∃ a vs, xs = [.ref a] ∧ Rd G a (.lst vs) ∧ DqAll K G vs es := by
  cases h with
  | cons d r =>
    cases r
    cases d with
    | lst h1 h2 => exact ⟨_, _, rfl, h1, h2⟩
theorem b_all (hc : X.calm = true) : Fn1 X T c W (.builtin "all") dAll := Fn1.mk (cr_all hc) (fun G H xs ds q Q l dq hq k => by
  obtain ⟨es, bs, rfl, h1, rfl⟩ := onBools_ok hq
  obtain ⟨a, vs, rfl, h2, h3⟩ := one_list dq
  rw [vs_bools h3 h1] at h2
  exact ⟨a, bs, rfl, sqL_sub (.inl h2) l.sub, k.1 _ (.bl _)⟩) fun ds y z => onBools_nx z
theorem b_any (hc : X.calm = true) : Fn1 X T c W (.builtin "any") dAny := Fn1.mk (cr_any hc) (fun G H xs ds q Q l dq hq k => by
  obtain ⟨es, bs, rfl, h1, rfl⟩ := onBools_ok hq
  obtain ⟨a, vs, rfl, h2, h3⟩ := one_list dq
  rw [vs_bools h3 h1] at h2
  exact ⟨a, bs, rfl, sqL_sub (.inl h2) l.sub, k.1 _ (.bl _)⟩) fun ds y z => onBools_nx z
theorem b_sum (hc : X.calm = true) : Fn1 X T c W (.builtin "sum") dSum := Fn1.mk (cr_sum hc) (fun G H xs ds q Q l dq hq k => by
  obtain ⟨es, bs, rfl, h1, h4⟩ := onInts_ok hq
  cases h4
  obtain ⟨a, vs, rfl, h2, h3⟩ := one_list dq
  rw [vs_ints h3 h1] at h2
  exact ⟨a, bs, rfl, sqL_sub (.inl h2) l.sub, k.1 _ (.int _)⟩) fun ds y z => onInts_nx (fun bs y q => by cases q) z
/-! ### abs, max, min -/
def dAbs : List D → Res D
  | [.int i] => .ok (.int (if i < 0 then -i else i))
  | _ => .stuck
theorem b_abs : Fn1 X T c W (.builtin "abs") dAbs := Fn1.mk call_abs (fun G H xs ds q Q l dq hq k => by
  cases dq with
  | nil => exact nomatch hq
  | cons d r =>
    cases r with
    | cons _ _ => cases d <;> exact nomatch hq
    | nil =>
      cases d with
      | int i => cases hq; exact ⟨i, rfl, k.1 _ (.int _)⟩
      | _ => exact nomatch hq) fun ds y z => by
  unfold dAbs at z
  split at z <;> exact nomatch z
def maxL : List Int → Option Int
  | [] => none
  | x :: xs => some (xs.foldl (fun a b => if b > a then b else a) x)
def minL : List Int → Option Int
  | [] => none
  | x :: xs => some (xs.foldl (fun a b => if b < a then b else a) x)
theorem foldmax (xs : List Int) : ∀ x : Int, (xs.foldl (fun a b => if b > a then b else a) x ∈ x :: xs) ∧ ∀ y ∈ x :: xs, y ≤ xs.foldl (fun a b => if b > a then b else a) x := by
  induction xs with
  | nil => intro x; simp
  | cons z zs ih =>
    intro x
    obtain ⟨h1, h2⟩ := ih (if z > x then z else x)
    rw [List.foldl_cons]
    refine ⟨?_, fun y hy => ?_⟩
    · rcases List.mem_cons.mp h1 with h | h
      · rw [h]; split <;> simp
      · simp [h]
    · have h3 := h2 _ List.mem_cons_self
      rcases List.mem_cons.mp hy with h | h
      · subst h
        exact Int.le_trans (show y ≤ (if z > y then z else y) by split <;> omega) h3
      · rcases List.mem_cons.mp h with h | h
        · subst h
          exact Int.le_trans (show y ≤ (if y > x then y else x) by split <;> omega) h3
        · exact h2 y (List.mem_cons_of_mem _ h)
theorem foldmin (xs : List Int) : ∀ x : Int, (xs.foldl (fun a b => if b < a then b else a) x ∈ x :: xs) ∧ ∀ y ∈ x :: xs, xs.foldl (fun a b => if b < a then b else a) x ≤ y := by
  induction xs with
  | nil => intro x; simp
  | cons z zs ih =>
    intro x
    obtain ⟨h1, h2⟩ := ih (if z < x then z else x)
    rw [List.foldl_cons]
    refine ⟨?_, fun y hy => ?_⟩
    · rcases List.mem_cons.mp h1 with h | h
      · rw [h]; split <;> simp
      · simp [h]
    · have h3 := h2 _ List.mem_cons_self
      rcases List.mem_cons.mp hy with h | h
      · subst h
        exact Int.le_trans h3 (show (if z < y then z else y) ≤ y by split <;> omega)
      · rcases List.mem_cons.mp h with h | h
        · subst h
          exact Int.le_trans h3 (show (if y < x then y else x) ≤ y by split <;> omega)
        · exact h2 y (List.mem_cons_of_mem _ h)
theorem maxL_is {ns : List Int} {m m' : Int} (h : maxL ns = some m) (h1 : m' ∈ ns) (h2 : ∀ y ∈ ns, y ≤ m') : m' = m := by
  cases ns with
  | nil => cases h
  | cons x xs =>
    cases h
    obtain ⟨a, b⟩ := foldmax xs x
    have := b m' h1
    have := h2 _ a
    omega
theorem minL_is {ns : List Int} {m m' : Int} (h : minL ns = some m) (h1 : m' ∈ ns) (h2 : ∀ y ∈ ns, m' ≤ y) : m' = m := by
  cases ns with
  | nil => cases h
  | cons x xs =>
    cases h
    obtain ⟨a, b⟩ := foldmin xs x
    have := b m' h1
    have := h2 _ a
    omega
def intOr (o : Option Int) : Res D := match o with
  | some m => .ok (.int m)
  | none => .stuck
def dMax : List D → Res D
  | [.int i, .int j] => .ok (.int (if j > i then j else i))
  | ds => onInts (fun ns => intOr (maxL ns)) ds
def dMin : List D → Res D
  | [.int i, .int j] => .ok (.int (if j < i then j else i))
  | ds => onInts (fun ns => intOr (minL ns)) ds
theorem b_max (hc : X.calm = true) : Fn1 X T c W (.builtin "max") dMax := Fn1.mk (CallR.or (call_max2 hc) (cr_max hc)) (fun G H xs ds q Q l dq hq k => by
  unfold dMax at hq
  split at hq
  · rename_i i j
    cases hq
    cases dq with
    | cons d1 r =>
      cases r with
      | cons d2 r =>
        cases r
        cases d1
        cases d2
        exact .inl ⟨_, _, rfl, k.1 _ (.int _)⟩
  · obtain ⟨es, bs, rfl, h1, h4⟩ := onInts_ok hq
    obtain ⟨a, vs, rfl, h2, h3⟩ := one_list dq
    rw [vs_ints h3 h1] at h2
    cases z : maxL bs with
    | none => rw [z] at h4; cases h4
    | some m =>
      rw [z] at h4
      cases h4
      refine .inr ⟨a, bs, rfl, sqL_sub (.inl h2) l.sub, by cases bs with | nil => cases z | cons _ _ => simp, fun m' e1 e2 => ?_⟩
      rw [maxL_is z e1 e2]
      exact k.1 _ (.int _)) fun ds y z => by
  unfold dMax at z
  split at z
  · cases z
  · exact onInts_nx (fun bs y q => by unfold intOr at q; split at q <;> cases q) z
theorem b_min (hc : X.calm = true) : Fn1 X T c W (.builtin "min") dMin := Fn1.mk (CallR.or (call_min2 hc) (cr_min hc)) (fun G H xs ds q Q l dq hq k => by
  unfold dMin at hq
  split at hq
  · rename_i i j
    cases hq
    cases dq with
    | cons d1 r =>
      cases r with
      | cons d2 r =>
        cases r
        cases d1
        cases d2
        exact .inl ⟨_, _, rfl, k.1 _ (.int _)⟩
  · obtain ⟨es, bs, rfl, h1, h4⟩ := onInts_ok hq
    obtain ⟨a, vs, rfl, h2, h3⟩ := one_list dq
    rw [vs_ints h3 h1] at h2
    cases z : minL bs with
    | none => rw [z] at h4; cases h4
    | some m =>
      rw [z] at h4
      cases h4
      refine .inr ⟨a, bs, rfl, sqL_sub (.inl h2) l.sub, by cases bs with | nil => cases z | cons _ _ => simp, fun m' e1 e2 => ?_⟩
      rw [minL_is z e1 e2]
      exact k.1 _ (.int _)) fun ds y z => by
  unfold dMin at z
  split at z
  · cases z
  · exact onInts_nx (fun bs y q => by unfold intOr at q; split at q <;> cases q) z
/-! ### int, tuple, list -/
def dInt : List D → Res D
  | [.int i] => .ok (.int i)
  | [.bool k] => .ok (.int (if k then 1 else 0))
  | _ => .stuck
theorem b_int : Fn1 X T c W (.type "int") dInt := Fn1.mk call_int1 (fun G H xs ds q Q l dq hq k => by
  cases dq with
  | nil => exact nomatch hq
  | cons d r =>
    cases r with
    | cons _ _ => cases d <;> exact nomatch hq
    | nil =>
      cases d with
      | int i => cases hq; exact .inl ⟨i, rfl, k.1 _ (.int _)⟩
      | bl i => cases hq; exact .inr ⟨i, rfl, k.1 _ (.int _)⟩
      | _ => exact nomatch hq) fun ds y z => by
  unfold dInt at z
  split at z <;> exact nomatch z
theorem call_tupleF : CallR X (.type "tuple") (fun xs H Q => ∃ p ys, xs = [.ref p] ∧ ((SqL X.K H p ys ∧ ∀ l o, H l = none → o.dict = none → Q (.ref l) (upd H l (.frz o (.tup ys)))) ∨ (SqT X.K H p ys ∧ Q (.ref p) H))) := by
  intro pins s σ H xs us Q I r h
  obtain ⟨p, ys, rfl, h⟩ := h
  obtain ⟨u, rfl, rx⟩ := vals1 r
  cases rx
  rcases h with ⟨hq, q⟩ | ⟨hq, q⟩
  · obtain ⟨its, r', pl, hz⟩ := I.list hq
    have hlen := r'.length
    refine call_tuple_list pl.isList (fun h' kp => ?_) (by simp only [List.size_toArray] <;> omega)
    have I1 : Inv X pins σ H { s with heap := h' } := I.kept (t' := s.toks) kp
    exact laidT (t' := s.toks) I1 r' hz q
  · obtain ⟨its, r', pl, hz⟩ := I.tuple hq
    exact call_tuple_same pl ⟨.ref p, H, I, rfl, q⟩
def dTuple : List D → Res D
  | [.list xs] => .ok (.tuple xs)
  | [.tuple xs] => .ok (.tuple xs)
  | _ => .stuck
def dList : List D → Res D
  | [.list xs] => .ok (.list xs)
  | [.tuple xs] => .ok (.list xs)
  | _ => .stuck
theorem b_tuple : Fn1 X T c W (.type "tuple") dTuple := Fn1.mk call_tupleF (fun G H xs ds q Q l dq hq k => by
  cases dq with
  | nil => exact nomatch hq
  | cons d r =>
    cases r with
    | cons _ _ => cases d <;> exact nomatch hq
    | nil =>
      cases d with
      | lst h1 h2 => cases hq; exact ⟨_, _, rfl, .inl ⟨sqL_sub (.inl h1) l.sub, fun p o hp ho => k.2 p _ hp (by intro _ z; cases z) (.tup (.inl ⟨o, upd_same, ho⟩) (h2.le (Le.upd (le_none l hp))))⟩⟩
      | tup h1 h2 => cases hq; exact ⟨_, _, rfl, .inr ⟨sqT_sub h1.sq l.sub, k.1 _ (.tup h1 h2)⟩⟩
      | _ => exact nomatch hq) fun ds y z => by
  unfold dTuple at z
  split at z <;> exact nomatch z
theorem b_list : Fn1 X T c W (.type "list") dList := Fn1.mk call_list_of (fun G H xs ds q Q l dq hq k => by
  cases dq with
  | nil => exact nomatch hq
  | cons d r =>
    cases r with
    | cons _ _ => cases d <;> exact nomatch hq
    | nil =>
      cases d with
      | lst h1 h2 => cases hq; exact ⟨_, _, rfl, .inl (sqL_sub (.inl h1) l.sub), fun p hp => k.2 p _ hp (by intro _ z; cases z) (.lst (.inl upd_same) (h2.le (Le.upd (le_none l hp))))⟩
      | tup h1 h2 => cases hq; exact ⟨_, _, rfl, .inr (sqT_sub h1.sq l.sub), fun p hp => k.2 p _ hp (by intro _ z; cases z) (.lst (.inl upd_same) (h2.le (Le.upd (le_none l hp))))⟩
      | _ => exact nomatch hq) fun ds y z => by
  unfold dList at z
  split at z <;> exact nomatch z
end
end Mi
set_option Elab.async false
set_option linter.all false
set_option maxRecDepth 100000
set_option maxHeartbeats 4000000
namespace Mi
open PySem L2
/-! ### sorted -/
def alikeB (ds : List D) : Bool := ds.all fun d => ds.all fun d' => PySem.W.alike d.py d'.py
theorem alikeB_ok {ds : List D} (h : alikeB ds = true) : PySem.W.AllAlike (ds.map D.py) := fun d hd d' hd' => by
  obtain ⟨x, hx, rfl⟩ := List.mem_map.mp hd
  obtain ⟨y, hy, rfl⟩ := List.mem_map.mp hd'
  exact List.all_eq_true.mp (List.all_eq_true.mp h x hx) y hy
def tupNE : D → Bool
  | .tuple (_ :: _) => true
  | _ => false
def plainK : D → Bool
  | .none => false
  | .tuple _ => false
  | .loc _ => false
  | _ => true
def sortB (ds : List D) : Bool := ds.all tupNE || ds.all plainK
theorem sortB_ok {ds : List D} (h : sortB ds = true) : PySem.W.Sortable (ds.map D.py) := by
  unfold sortB at h
  rw [Bool.or_eq_true] at h
  rcases h with h | h
  · refine .inl fun d hd => ?_
    obtain ⟨x, hx, rfl⟩ := List.mem_map.mp hd
    have q := List.all_eq_true.mp h x hx
    unfold tupNE at q
    split at q
    · exact ⟨_, _, rfl⟩
    · cases q
  · refine .inr fun d hd => ?_
    obtain ⟨x, hx, rfl⟩ := List.mem_map.mp hd
    have q := List.all_eq_true.mp h x hx
    constructor
    · intro e; cases x <;> first | (cases q; done) | (cases e; done)
    · intro xs e; cases x <;> first | (cases q; done) | (cases e; done)
def leD : D → D → Bool := PySem.W.dataLe false D.py
def sortOk (ds : List D) : Bool := alikeB ds && sortB ds && noDicts ds && ds.all fun d => decide (d.depth ≤ 60)
def sortL (ds : List D) : List D := ds.mergeSort leD
theorem each_zip : ∀ {vs : List V} {us : List Value} {ds : List D}, Vals vs us → vs.length = ds.length → PySem.W.EachIs (fun (u : Value) (b : V × D) => RelV b.1 u) us (vs.zip ds)
  | _, _, [], .nil, _ => .nil
  | _, _, _ :: _, .nil, h => by simp at h
  | _, _, [], .cons _ _, h => by simp at h
  | _, _, d :: ds, .cons r t, h => .cons r (each_zip t (by simpa using h))
section
variable {X : Cx} {T : Tb} {c : Gh} {W : WX} {a b e : Expr} {f f1 f2 : MM D} {pos p : Pos}
theorem each_reads {pins : List (Addr × Obj)} {s : Shared} {σ : St} {H : Hp} (I : Inv X pins σ H s) : ∀ {vs : List V} {us : List Value} {ds : List D}, Vals vs us → DpAll X.K H vs (pys ds) → PySem.W.EachIs (fun (u : Value) (b : V × D) => ∃ as, Reads s.heap u b.2.py as) us (vs.zip ds)
  | _, _, [], .nil, _ => .nil
  | _, _, _ :: _, .cons r t, .cons h1 h2 => .cons (Dp.reads I _ _ _ h1 r) (each_reads I t h2)
theorem vals_each : ∀ {us : List Value} {ps : List (V × D)}, PySem.W.EachIs (fun (u : Value) (b : V × D) => RelV b.1 u) us ps → Vals (ps.map (·.1)) us
  | _, _, .nil => .nil
  | _, _, .cons r t => .cons r (vals_each t)
def rSortD (K : Fg) : List V → Hp → VK → Prop := fun xs H Q => ∃ a vs ds, xs = [V.ref a] ∧ SqL K H a vs ∧ DpAll K H vs (pys ds) ∧ vs.length = ds.length ∧ sortOk ds = true ∧
  ∀ p, H p = none → Q (.ref p) (upd H p (.lst (((vs.zip ds).mergeSort (PySem.W.dataLe false (·.2.py))).map (·.1))))
theorem cr_sortD (hu : X.A.units + 64 < cLine) : CallR X (.builtin "sorted") (rSortD X.K) := by
  intro pins s σ H xs us Q I r h
  obtain ⟨a, vs, ds, rfl, hs, dp, hl, ok, q⟩ := h
  obtain ⟨its, rv, pl, hz⟩ := I.list hs
  rw [Vals.ref1 r]
  unfold sortOk at ok
  simp only [Bool.and_eq_true, List.all_eq_true, decide_eq_true_eq] at ok
  obtain ⟨⟨⟨o1, o2⟩, o3⟩, o4⟩ := ok
  have em : (vs.zip ds).map (·.2) = ds := List.map_snd_zip (by omega)
  have em2 : (vs.zip ds).map (fun b : V × D => b.2.py) = ds.map D.py := by rw [← em, List.map_map]; rw [em]; rfl
  refine PySem.W.sorted_data (enc := fun b : V × D => b.2.py) (bs := vs.zip ds) pl.isList (each_zip rv hl) (each_reads I rv dp) (by rw [em2]; exact alikeB_ok o1) (by rw [em2]; exact sortB_ok o2) (by rw [List.length_zip, hl, Nat.min_self, ← hl]; exact hz)
    (fun b hb => ?_) fun out h1 h2 => ?_
  · have hb2 : b.2 ∈ ds := by rw [← em]; exact List.mem_map.mpr ⟨b, hb, rfl⟩
    have := o4 b.2 hb2
    unfold D.depth at this
    omega
  · obtain ⟨ep, he'⟩ := PyProof.Rows.sortedAll_at s.heap its (List.toArray out)
    refine ⟨.ref _, upd H (s.heap.objs.size + 1) (.lst (((vs.zip ds).mergeSort (PySem.W.dataLe false (·.2.py))).map (·.1))), I.laid (t' := s.toks) (fun _ _ => PyProof.Rows.sortedAll_old) (Nat.le_succ _) ⟨?_, out, ep, vals_each h2, by simpa using he'⟩, rfl, q _ (I.hok.fresh (Nat.le_succ _))⟩
    rw [List.length_map, List.length_mergeSort, List.length_zip, hl, Nat.min_self, ← hl]
    exact hz
theorem dq_pairs {K : Fg} {G : Wd} : ∀ {ps : List (V × D)}, (∀ p ∈ ps, Dq K G p.1 p.2) → DqAll K G (ps.map (·.1)) (ps.map (·.2))
  | [], _ => .nil
  | p :: ps, h => .cons (h p List.mem_cons_self) (dq_pairs fun q hq => h q (List.mem_cons_of_mem _ hq))
theorem dq_zip {K : Fg} {G : Wd} : ∀ {vs : List V} {ds : List D}, DqAll K G vs ds → ∀ p ∈ vs.zip ds, Dq K G p.1 p.2
  | _, _, .nil, p, h => by simp at h
  | _, _, .cons h t, p, hp => by
    rw [List.zip_cons_cons] at hp
    rcases List.mem_cons.mp hp with e | e
    · subst e; exact h
    · exact dq_zip t p e
theorem dq_sorted {K : Fg} {G : Wd} {vs : List V} {ds : List D} (h : DqAll K G vs ds) : DqAll K G (((vs.zip ds).mergeSort (PySem.W.dataLe false (·.2.py))).map (·.1)) (sortL ds) := by
  have e : sortL ds = ((vs.zip ds).mergeSort (PySem.W.dataLe false (·.2.py))).map (·.2) := by
    unfold sortL leD
    have hm : (vs.zip ds).map (·.2) = ds := List.map_snd_zip (by rw [h.length]; exact Nat.le_refl _)
    have hs := PySem.W.sort_maps (r := PySem.W.dataLe false (fun b : V × D => b.2.py)) (s := PySem.W.dataLe false D.py) (l := vs.zip ds) (fun b : V × D => b.2) (fun _ _ _ _ => rfl)
    rw [hm] at hs
    exact hs.symm
  rw [e]
  refine dq_pairs fun p hp => ?_
  have hp' : p ∈ vs.zip ds := (List.mergeSort_perm (vs.zip ds) _).mem_iff.mp hp
  exact dq_zip h p hp'
def allStr : List (D × D) → Option (List Str)
  | [] => some []
  | (.str s, _) :: r => (allStr r).map (s :: ·)
  | _ => none
def dSorted : List D → Res D
  | [.list ds] => if sortOk ds = true then .ok (.list (sortL ds)) else .stuck
  | [.dict kvs] => (match allStr kvs with
    | some ks => if ks.length < 64 then .ok (.list (sortL (ks.map .str))) else .stuck
    | none => .stuck)
  | _ => .stuck
theorem keys_str {K : Fg} {G : Wd} : ∀ {kvs : List (Key × V)} {ds : List (D × D)} {ks : List Str}, DqKV K G kvs ds → allStr ds = some ks → kvs.map (·.1) = ks.map Sum.inr
  | _, _, _, .nil, h => by cases h; rfl
  | _, _, _, .cons (k := k) h t, e => by
    cases k with
    | inl i => exact nomatch e
    | inr s =>
      have e : (allStr _).map (s :: ·) = some _ := e
      cases q : allStr _ with
      | none => rw [q] at e; cases e
      | some r =>
        rw [q] at e
        cases e
        rw [List.map_cons, List.map_cons, keys_str t q]
theorem pw_rising : ∀ {p : Str} {l : List Str}, PyProof.Rows.risingS p l = true → (p :: l).Pairwise (fun a b => decide (a.cps.toList ≤ b.cps.toList) = true)
  | p, [], _ => by simp
  | p, x :: r, h => by
    obtain ⟨h1, h2⟩ := Bool.and_eq_true_iff.mp (show (!PySem.Spec.ltCps x.cps.toList p.cps.toList && PyProof.Rows.risingS x r) = true from h)
    have q := pw_rising h2
    have hle : p.cps.toList ≤ x.cps.toList := by
      have : PySem.Spec.ltCps x.cps.toList p.cps.toList = false := by simpa using h1
      rw [PyProof.Rows.ltCps_eq, decide_eq_false_iff_not] at this; exact List.not_lt.mp this
    refine List.pairwise_cons.mpr ⟨fun y hy => ?_, q⟩
    rcases List.mem_cons.mp hy with e | e
    · subst e; exact decide_eq_true hle
    · exact decide_eq_true (List.le_trans hle (of_decide_eq_true ((List.pairwise_cons.mp q).1 y e)))
theorem pw_sortedS {l : List Str} (h : PyProof.Rows.sortedS l = true) : l.Pairwise (fun a b => decide (a.cps.toList ≤ b.cps.toList) = true) := by
  cases l with
  | nil => exact .nil
  | cons x r => exact pw_rising h
theorem sorted_strs_eq {ys ks : List Str} (hp : ys.Perm ks) (hs : PyProof.Rows.sortedS ys = true) : ys.map D.str = sortL (ks.map .str) := by
  have e1 := PySem.W.sort_maps (r := PySem.W.dataLe false (fun s : Str => PyData.str s)) (s := leD) (l := ks) D.str (fun _ _ _ _ => rfl)
  unfold sortL
  rw [← e1]
  congr 1
  rw [PySem.W.dataLe_str (fun s : Str => s)]
  refine PySem.W.Srt.the_of_perm _ (fun x y z h1 h2 => ?_) (fun x y => ?_) (fun x y h1 h2 => ?_) hp ?_
  · simp only [decide_eq_true_eq] at *
    exact List.le_trans h1 h2
  · simp only [Bool.or_eq_true, decide_eq_true_eq]
    exact List.le_total _ _
  · simp only [decide_eq_true_eq] at *
    exact PySem.W.str_of_cps (List.le_antisymm h1 h2)
  · exact pw_sortedS hs
theorem dq_strs {K : Fg} {G : Wd} : ∀ ys : List Str, DqAll K G (ys.map V.str) (ys.map D.str)
  | [] => .nil
  | y :: ys => .cons (.str y) (dq_strs ys)
theorem b_sorted (hc : X.calm = true) (hu : X.A.units + 64 < cLine) : Fn1 X T c W (.builtin "sorted") dSorted := Fn1.mk (CallR.or (cr_sortD hu) (call_sortedD hc)) (fun G H xs ds q Q l dq hq k => by
  unfold dSorted at hq
  split at hq
  · rename_i es
    obtain ⟨ok, rfl⟩ := ite_res hq
    obtain ⟨a, vs, rfl, h2, h3⟩ := one_list dq
    have nd : noDicts es = true := by
      unfold sortOk at ok
      simp only [Bool.and_eq_true] at ok
      exact ok.1.2
    refine .inl ⟨a, vs, es, rfl, sqL_sub (.inl h2) l.sub, dpAll_of (h3.up l) nd, h3.length, ok, fun p hp => k.2 p _ hp (by intro _ z; cases z) ?_⟩
    exact .lst (.inl upd_same) ((dq_sorted h3).le (Le.upd (le_none l hp)))
  · rename_i kvs
    cases z : allStr kvs with
    | none => rw [z] at hq; cases hq
    | some ks =>
      rw [z] at hq
      obtain ⟨ok, rfl⟩ := ite_res hq
      cases dq with
      | cons d r =>
        cases r
        cases d with
        | dic h1 h2 =>
          refine .inr ⟨_, _, ks, rfl, l.sub.rd _ _ (fun _ _ z => by cases z) h1.rd, keys_str h2 z, ok, fun ys p hy hs hp => k.2 p _ hp (by intro _ z; cases z) ?_⟩
          rw [← sorted_strs_eq hy hs]
          exact .lst (.inl upd_same) (dq_strs ys)
  · cases hq) fun ds y z => by
  unfold dSorted at z
  split at z
  · exact ite_nx z
  · split at z
    · exact ite_nx z
    · cases z
  · cases z
end
end Mi
set_option Elab.async false
set_option linter.all false
set_option maxRecDepth 100000
namespace Mi
open PySem L2
section
variable {X : Cx} {T : Tb} {c : Gh} {W : WX} {a b e : Expr} {f f1 f2 f3 : MM D} {pos p : Pos}
/-! ### dict(pairs) -/
theorem pairs2 {pins : List (Addr × Obj)} {σ : St} {H : Hp} {s : Shared} (I : Inv X pins σ H s) : ∀ {ps : List Addr} {kvs : List (Key × V)}, Paired (fun p kv => SqT X.K H p [kV kv.1, kv.2]) ps kvs →
    ∃ (vv : List (Value × Value)) (prs : List (Key × Value)), KV kvs prs ∧ prs.length = vv.length ∧ vv.length = ps.length ∧ ∀ (j : Nat) k v, vv[j]? = some (k, v) → ∃ b, ps[j]? = some b ∧ PyProof.Rows.IsTup s.heap b #[k, v] ∧ ∃ key, prs[j]? = some (key, v) ∧ keyIs key k = true
  | _, _, .nil => ⟨[], [], .nil, rfl, rfl, fun j k v e => by simp at e⟩
  | _, _, .cons (a := p) (b := kv) h t => by
    obtain ⟨vv, prs, r, h1, h2, hp⟩ := pairs2 I t
    obtain ⟨its, rv, ht, _⟩ := I.tuple h
    obtain ⟨u, y, ei, ru, ry⟩ := vals2 rv
    subst ei
    refine ⟨(u, y) :: vv, (kv.1, y) :: prs, .cons ⟨rfl, ry⟩ r, by simp [h1], by simp [h2], fun j k v e => ?_⟩
    cases j with
    | zero =>
      have e' : (u, y) = (k, v) := Option.some.inj e
      cases e'
      exact ⟨p, rfl, ht, kv.1, rfl, kV_is (P := X.prog) (w := X.w) ru⟩
    | succ j =>
      obtain ⟨b, e1, e2, e3⟩ := hp j k v (by simpa using e)
      exact ⟨b, by simpa using e1, e2, by simpa using e3⟩
def rDictT (K : Fg) : List V → Hp → VK → Prop := fun xs H Q => ∃ (a : Addr) (ps : List Addr) (kvs : List (Key × V)), xs = [.ref a] ∧ TupAt K H a (ps.map V.ref) ∧ Paired (fun p kv => SqT K H p [kV kv.1, kv.2]) ps kvs ∧
    ∀ p, H p = none → Q (.ref p) (upd H p (.dK (mergeK [] kvs)))
theorem call_dictT (hcalm : X.calm = true) : CallR X (.type "dict") (rDictT X.K) := by
  intro pins s σ H xs us Q I r q
  obtain ⟨a, ps, kvs, ex, hq, hp, q⟩ := q
  subst ex
  obtain ⟨u, eu, rx⟩ := vals1 r
  subst eu
  cases rx
  obtain ⟨vv, prs, rel, h1, h2, hpr⟩ := pairs2 I hp
  obtain ⟨its, rv, pl, hz⟩ : ∃ its : List Value, Vals (ps.map V.ref) its ∧ PlainSeq "tuple" s.heap a its.toArray ∧ (ps.map V.ref).length ≤ sizeLine := by
    rcases hq with ⟨o, hf, hd⟩ | ⟨o, its, n, hk, hc, hd, hs, hz, r⟩
    · obtain ⟨h1, z, its, r, o', h2, hc, n, hdat⟩ := I.hok a _ hf
      rw [h1] at h2
      cases h2
      exact ⟨its, r, ⟨o, n, h1, hc, hd, hdat⟩, z⟩
    · refine ⟨its.toList, r, ⟨o, n, I.kIn a o hk, hc, hd, by simpa using hs⟩, ?_⟩
      have e := r.length
      simp only [Array.length_toList] at e
      omega
  have ei := refs_at rv
  subst ei
  rw [List.length_map] at hz
  have items : PairItems s.heap (ps.map Value.ref).toArray (fun j => ps.getD j 0) vv := by
    refine ⟨by simp [h2], fun j k v e => ?_⟩
    obtain ⟨b, e1, e2, _⟩ := hpr j k v e
    refine ⟨by simp [e1], .inl ?_⟩
    show PyProof.Rows.IsTup s.heap (ps.getD j 0) #[k, v]
    rw [List.getD_eq_getElem?_getD, e1]
    exact e2
  refine PySem.call_dict_pairs (knd := mixKind X.prog X.w) (kvs := prs) (PairArg.tuple a (ps.map Value.ref).toArray (fun j => ps.getD j 0) vv) (I.ok.hd hcalm) ⟨pl, items⟩ ⟨h1, fun i key v hr => ?_⟩ (by rw [h2]; exact hz) fun h' tk hd' k => ?_
  · obtain ⟨b, _, _, key', e3, e4⟩ := hpr i key v hr
    exact ⟨key', e3, e4⟩
  · have hm : (s.heap.objs.size == sysModules) = false := beq_eq_false_iff_ne.mpr (Nat.ne_of_gt I.big)
    have hlen : (mergeK [] kvs).length ≤ sizeLine := by
      refine Nat.le_trans (length_mergeK kvs []) ?_
      rw [List.length_nil, Nat.zero_add, rel.length, h1, h2]
      exact hz
    exact ⟨.ref s.heap.objs.size, upd H s.heap.objs.size (.dK (mergeK [] kvs)), I.laid (t' := tk) (fun b o e => k b o (by simp) e) (Nat.le_refl _) (show ObjOk X.prog X.w _ _ _ (.dK (mergeK [] kvs)) from ⟨hlen, hm, merged [] prs, KV.merge rel .nil, hd'⟩), rfl, q _ (I.hok.fresh (Nat.le_refl _))⟩
/-! ### the dict's pairs -/
def putD (kvs : List (D × D)) (k v : D) : List (D × D) := if hasKey k kvs = true then kvs.map fun kv => if D.eqv kv.1 k = true then (kv.1, v) else kv else kvs ++ [(k, v)]
def mergeD (kvs more : List (D × D)) : List (D × D) := more.foldl (fun acc kv => putD acc kv.1 kv.2) kvs
theorem DqKV.app {K : Fg} {G : Wd} : ∀ {vs ws : List (Key × V)} {ds es : List (D × D)}, DqKV K G vs ds → DqKV K G ws es → DqKV K G (vs ++ ws) (ds ++ es)
  | _, _, _, _, .nil, h => h
  | _, _, _, _, .cons h t, h2 => .cons h (DqKV.app t h2)
theorem DqKV.repl {K : Fg} {G : Wd} {k : Key} {v : V} {d : D} (r : Dq K G v d) : ∀ {kvs : List (Key × V)} {ds : List (D × D)}, DqKV K G kvs ds → DqKV K G (kvs.map fun kv => if kv.1 = k then (kv.1, v) else kv) (ds.map fun kv => if D.eqv kv.1 (keyD k) = true then (kv.1, d) else kv)
  | _, _, .nil => .nil
  | _, _, .cons (k := k') h t => by
    rw [List.map_cons, List.map_cons]
    simp only [eqv_key, decide_eq_true_eq]
    have ih := DqKV.repl (k := k) r t
    by_cases z : k' = k
    · rw [if_pos z, if_pos z]; exact .cons r ih
    · rw [if_neg z, if_neg z]; exact .cons h ih
theorem DqKV.put {K : Fg} {G : Wd} {k : Key} {v : V} {d : D} {kvs : List (Key × V)} {ds : List (D × D)} (h : DqKV K G kvs ds) (r : Dq K G v d) : DqKV K G (putK kvs k v) (putD ds (keyD k) d) := by
  unfold putK putD
  have e : (kvs.any fun kv => decide (kv.1 = k)) = hasKey (keyD k) ds := by rw [valV_any, dqkv_has h]
  rw [e]
  by_cases z : hasKey (keyD k) ds = true
  · rw [if_pos z, if_pos z]; exact h.repl r
  · rw [if_neg z, if_neg z]; exact h.app (.cons r .nil)
theorem DqKV.merge {K : Fg} {G : Wd} : ∀ {more : List (Key × V)} {ms : List (D × D)} {kvs : List (Key × V)} {ds : List (D × D)}, DqKV K G more ms → DqKV K G kvs ds → DqKV K G (mergeK kvs more) (mergeD ds ms)
  | _, _, _, _, .nil, h => h
  | _, _, _, _, .cons (kvs := kr) (ds := dr) (k := k) (v := v) (d := d) h t, h2 => by
    show DqKV K G (mergeK (putK _ k v) kr) (mergeD (putD _ (keyD k) d) dr)
    exact DqKV.merge t (h2.put h)
def toPairs : List D → Option (List (D × D))
  | [] => some []
  | .tuple [k, v] :: r => (match keyOf k with
    | some _ => (toPairs r).map ((k, v) :: ·)
    | none => none)
  | _ => none
theorem pairs_at {K : Fg} {G : Wd} {H : Hp} (l : Lh G H) : ∀ {vs : List V} {ds : List D} {ms : List (D × D)}, DqAll K G vs ds → toPairs ds = some ms → ∃ (ps : List Addr) (kvs : List (Key × V)), vs = ps.map V.ref ∧ Paired (fun p kv => SqT K H p [kV kv.1, kv.2]) ps kvs ∧ DqKV K G kvs ms
  | _, _, _, .nil, e => by cases e; exact ⟨[], [], rfl, .nil, .nil⟩
  | _, _, _, .cons (d := d) (ds := ds) h t, e => by
    cases h with
    | tup hq hr =>
      cases hr with
      | nil => exact nomatch e
      | cons d1 hr =>
        cases hr with
        | nil => exact nomatch e
        | cons d2 hr =>
          cases hr with
          | cons _ _ => exact nomatch e
          | nil =>
            rename_i a v1 k v2 vd
            have e2 : (match keyOf k with | some _ => (toPairs ds).map ((k, vd) :: ·) | none => none) = some _ := e
            cases hk : keyOf k with
            | none => rw [hk] at e2; cases e2
            | some key =>
              rw [hk] at e2
              cases hp : toPairs ds with
              | none => rw [hp] at e2; cases e2
              | some r =>
                rw [hp] at e2
                cases e2
                obtain ⟨ps, kvs, q1, q2, q3⟩ := pairs_at l t hp
                have ek := keyOf_keyD hk
                subst ek
                have ev := dq_key d1
                subst ev
                exact ⟨a :: ps, (key, v2) :: kvs, by rw [q1]; rfl, .cons (sqT_sub hq.sq l.sub) q2, .cons d2 q3⟩
    | _ => exact nomatch e
def dDict : List D → Res D
  | [.list ds] => (match toPairs ds with | some ms => .ok (.dict (mergeD [] ms)) | none => .stuck)
  | [.tuple ds] => (match toPairs ds with | some ms => .ok (.dict (mergeD [] ms)) | none => .stuck)
  | [.dict kvs] => .ok (.dict kvs)
  | _ => .stuck
theorem call_dictC : CallR X (.type "dict") (fun xs H Q => ∃ a kvs, xs = [V.ref a] ∧ Rd H a (.dK kvs) ∧ ∀ p, H p = none → Q (.ref p) (upd H p (.dK kvs))) := by
  intro pins s σ H xs us Q I r h
  obtain ⟨a, kvs, rfl, ha, q⟩ := h
  obtain ⟨u, rfl, ru⟩ := vals1 r
  cases ru
  exact d_copyOf I ha fun p s' hp I' => ⟨.ref p, _, I', rfl, q p hp⟩
theorem b_dict (hc : X.calm = true) : Fn1 X T c W (.type "dict") dDict := Fn1.mk (CallR.or (CallR.lock (call_dictP hc)) (CallR.or (CallR.lock (call_dictT hc)) (CallR.lock call_dictC))) (fun G H xs ds q Q l dq hq k => by
  cases dq with
  | nil => exact nomatch hq
  | cons d r =>
    cases r with
    | cons _ _ => cases d <;> exact nomatch hq
    | nil =>
      cases d with
      | lst h1 h2 =>
        rename_i a vs es
        have hq2 : (match toPairs es with | some ms => Res.ok (D.dict (mergeD [] ms)) | none => .stuck) = .ok q := hq
        cases z : toPairs es with
        | none => rw [z] at hq2; cases hq2
        | some ms =>
          rw [z] at hq2
          cases hq2
          obtain ⟨ps, kvs, rfl, q2, q3⟩ := pairs_at l h2 z
          exact .inl ⟨_, ps, kvs, rfl, sqL_sub (.inl h1) l.sub, q2, fun p hp => LockQ.new trivial fun od => k.2 p _ hp (by intro _ z; cases z) (.dic ⟨_, upd_same⟩ ((DqKV.merge q3 .nil).le (Le.upd (le_none l hp))))⟩
      | tup h1 h2 =>
        rename_i a vs es
        have hq2 : (match toPairs es with | some ms => Res.ok (D.dict (mergeD [] ms)) | none => .stuck) = .ok q := hq
        cases z : toPairs es with
        | none => rw [z] at hq2; cases hq2
        | some ms =>
          rw [z] at hq2
          cases hq2
          obtain ⟨ps, kvs, rfl, q2, q3⟩ := pairs_at l h2 z
          exact .inr (.inl ⟨_, ps, kvs, rfl, h1.sub l.sub, q2, fun p hp => LockQ.new trivial fun od => k.2 p _ hp (by intro _ z; cases z) (.dic ⟨_, upd_same⟩ ((DqKV.merge q3 .nil).le (Le.upd (le_none l hp))))⟩)
      | dic h1 h2 => cases hq; exact .inr (.inr ⟨_, _, rfl, l.sub.rd _ _ (fun _ _ z => by cases z) h1.rd, fun p hp => LockQ.new trivial fun od => k.2 p _ hp (by intro _ z; cases z) (.dic ⟨_, upd_same⟩ (h2.le (Le.upd (le_none l hp))))⟩)
      | _ => exact nomatch hq) fun ds y z => by
  unfold dDict at z
  split at z
  · split at z <;> cases z
  · split at z <;> cases z
  · cases z
  · cases z
/-! ### d.get -/
def get1E (f1 f2 : MM D) : MM D := MM.bind f1 fun x => match x with
  | .dict kvs => MM.bind f2 fun k => match keyOf k with
    | some _ => MM.pure ((valAt kvs k).getD .none)
    | none => stuck
  | _ => stuck
def get2E (f1 f2 f3 : MM D) : MM D := MM.bind f1 fun x => match x with
  | .dict kvs => MM.bind f2 fun k => MM.bind f3 fun z => match keyOf k with
    | some _ => MM.pure ((valAt kvs k).getD z)
    | none => stuck
  | _ => stuck
theorem me_get1 {apos cpos : Pos} (hu : X.A.units + 1 < cLine) (ho : PE X a (mE X.K T c W f1)) (he : PE X e (mE X.K T c W f2)) (m : M1 X a "get" apos e cpos) : PE X (.Call (.Attribute a "get" apos) [e] [] cpos) (mE X.K T c W (get1E f1 f2)) := by
  refine pe_mono (pe_dget1 hu ho he m) fun σ H Q ⟨G, ρ, j, p⟩ => ?_
  refine pX_bind j p fun x v ρ1 G1 H1 l1 j1 r1 p1 => ?_
  cases r1 with
  | dic h1 h2 =>
    refine ⟨_, rfl, .inl ⟨_, j1.subH.rd _ _ (fun _ _ z => by cases z) h1.rd⟩, ?_⟩
    refine pX_bind j1 p1 fun y w ρ2 G2 H2 l2 j2 r2 p2 => ?_
    cases hk : keyOf y with
    | none => simp only [hk] at p2; exact p2.elim
    | some k =>
      simp only [hk] at p2
      have ek := keyOf_keyD hk
      subst ek
      have ev := dq_key r2
      subst ev
      refine ⟨_, .inl ⟨_, k, j2.subH.rd _ _ (fun _ _ z => by cases z) (l2.sub.rd _ _ (fun _ _ z => by cases z) h1.rd), rfl, rfl⟩, ?_⟩
      rcases dqkv_val (k := k) (h2.le l2) with ⟨q1, q2⟩ | ⟨v, d, q1, q2, q3⟩
      · rw [q1]; rw [q2] at p2; exact p2.here j2 .non
      · rw [q1]; rw [q2] at p2; exact p2.here j2 q3
  | _ => exact p1.elim
theorem me_get2 {apos cpos : Pos} (hu : X.A.units + 1 < cLine) (ho : PE X a (mE X.K T c W f1)) (he : PE X e (mE X.K T c W f2)) (hf : PE X b (mE X.K T c W f3)) (m : M2 X a "get" apos e b cpos) : PE X (.Call (.Attribute a "get" apos) [e, b] [] cpos) (mE X.K T c W (get2E f1 f2 f3)) := by
  refine pe_mono (pe_dget2 hu ho he hf m) fun σ H Q ⟨G, ρ, j, p⟩ => ?_
  refine pX_bind j p fun x v ρ1 G1 H1 l1 j1 r1 p1 => ?_
  cases r1 with
  | dic h1 h2 =>
    refine ⟨_, rfl, .inl ⟨_, j1.subH.rd _ _ (fun _ _ z => by cases z) h1.rd⟩, ?_⟩
    refine pX_bind j1 p1 fun y w ρ2 G2 H2 l2 j2 r2 p2 => ?_
    refine pX_bind j2 p2 fun z u ρ3 G3 H3 l3 j3 r3 p3 => ?_
    cases hk : keyOf y with
    | none => simp only [hk] at p3; exact p3.elim
    | some k =>
      simp only [hk] at p3
      have ek := keyOf_keyD hk
      subst ek
      have ev := dq_key r2
      subst ev
      refine ⟨_, .inl ⟨_, k, j3.subH.rd _ _ (fun _ _ z => by cases z) ((l2.trans l3).sub.rd _ _ (fun _ _ z => by cases z) h1.rd), rfl, rfl⟩, ?_⟩
      rcases dqkv_val (k := k) (h2.le (l2.trans l3)) with ⟨q1, q2⟩ | ⟨v, d, q1, q2, q3⟩
      · rw [q1]; rw [q2] at p3; exact p3.here j3 r3
      · rw [q1]; rw [q2] at p3; exact p3.here j3 q3
  | _ => exact p1.elim
/-! ### constants of the module -/
theorem me_gint {x : Str} {i : Int} (hg : Gl X x) (hm : ∃ t, X.mg x = some (.int i t)) (hd : (x == ("__debug__" : Str)) = false := by decide) : PE X (.Name x pos) (mE X.K T c W (MM.pure (.int i))) := by
  obtain ⟨t, hm⟩ := hm
  exact me_const (pe_glob (v := V.int i) hg hm ⟨t, rfl⟩ hd) fun _ => .int i
theorem me_gstr {x z : Str} (hg : Gl X x) (hm : ∃ t, X.mg x = some (.str z t)) (hd : (x == ("__debug__" : Str)) = false := by decide) : PE X (.Name x pos) (mE X.K T c W (MM.pure (.str z))) := by
  obtain ⟨t, hm⟩ := hm
  exact me_const (pe_glob (v := V.str z) hg hm ⟨t, rfl⟩ hd) fun _ => .str z
/-! ### zip -/
def zipD : List D → List D → List D
  | x :: xs, y :: ys => .tuple [x, y] :: zipD xs ys
  | _, _ => []
def zip2 : List D → Res (List D)
  | [.list xs, .list ys] => .ok (zipD xs ys)
  | [.tuple xs, .tuple ys] => .ok (zipD xs ys)
  | _ => .stuck
theorem zipD_length : ∀ (xs ys : List D), (zipD xs ys).length = min xs.length ys.length
  | [], _ => by simp [zipD]
  | _ :: _, [] => by simp [zipD]
  | x :: xs, y :: ys => by simp only [zipD, List.length_cons, zipD_length xs ys]; omega
theorem zipD_get : ∀ {xs ys : List D} {i : Nat} {x y : D}, xs[i]? = some x → ys[i]? = some y → (zipD xs ys)[i]? = some (.tuple [x, y])
  | [], _, _, _, _, h, _ => by simp at h
  | _ :: _, [], _, _, _, _, h => by simp at h
  | a :: xs, b :: ys, 0, x, y, h1, h2 => by simp at h1 h2; subst h1; subst h2; rfl
  | a :: xs, b :: ys, i + 1, x, y, h1, h2 => by
    simp only [List.getElem?_cons_succ] at h1 h2
    show (zipD xs ys)[i]? = _
    exact zipD_get h1 h2
theorem gives_zipL {K : Fg} {G : Wd} {a b : Addr} {vs ws : List V} {ds es : List D} (hq : SqL K G a vs) (hr : DqAll K G vs ds) (hq2 : SqL K G b ws) (hr2 : DqAll K G ws es) : Gives (relY K) (Itz K a b) G (zipD ds es) where
  go := fun i G1 H l1 l2 hi => by
    rw [zipD_length, ← hr.length, ← hr2.length] at hi
    have h1 : i < vs.length := by omega
    have h2 : i < ws.length := by omega
    exact ⟨vs, ws, vs[i], ws[i], sqL_sub (sqL_sub hq l1.sub) l2.sub, sqL_sub (sqL_sub hq2 l1.sub) l2.sub, by simp [h1], by simp [h2]⟩
  stop := fun G1 H l1 l2 => ⟨vs, ws, sqL_sub (sqL_sub hq l1.sub) l2.sub, sqL_sub (sqL_sub hq2 l1.sub) l2.sub, by rw [zipD_length, ← hr.length, ← hr2.length]; omega⟩
  yld := fun i G1 H x H' l1 l2 hi y => by
    obtain ⟨T, u, w, rfl, hn, rfl, y1, y2⟩ := y
    obtain ⟨d1, e1, q1⟩ := hr.get (y1 vs (sqL_sub (sqL_sub hq l1.sub) l2.sub))
    obtain ⟨d2, e2, q2⟩ := hr2.get (y2 ws (sqL_sub (sqL_sub hq2 l1.sub) l2.sub))
    have l3 : Le G1 (wupd G1 T (.tup [u, w])) := Le.upd (le_none l2 hn)
    exact ⟨.tuple [d1, d2], zipD_get e1 e2, .inr ⟨T, _, hn, (by intro _ z; cases z), rfl, .inr ⟨T, _, _, rfl, rfl, SqT.of upd_same, .cons ((q1.le l1).le l3) (.cons ((q2.le l1).le l3) .nil)⟩⟩⟩
theorem gives_zipT {K : Fg} {G : Wd} {a b : Addr} {vs ws : List V} {ds es : List D} (hq : SqT K G a vs) (hr : DqAll K G vs ds) (hq2 : SqT K G b ws) (hr2 : DqAll K G ws es) : Gives (relY K) (RZ.ItzT K a b) G (zipD ds es) where
  go := fun i G1 H l1 l2 hi => by
    rw [zipD_length, ← hr.length, ← hr2.length] at hi
    have h1 : i < vs.length := by omega
    have h2 : i < ws.length := by omega
    exact ⟨vs, ws, vs[i], ws[i], sqT_sub (sqT_sub hq l1.sub) l2.sub, sqT_sub (sqT_sub hq2 l1.sub) l2.sub, by simp [h1], by simp [h2]⟩
  stop := fun G1 H l1 l2 => ⟨vs, ws, sqT_sub (sqT_sub hq l1.sub) l2.sub, sqT_sub (sqT_sub hq2 l1.sub) l2.sub, by rw [zipD_length, ← hr.length, ← hr2.length]; omega⟩
  yld := fun i G1 H x H' l1 l2 hi y => by
    obtain ⟨T, u, w, rfl, hn, rfl, y1, y2⟩ := y
    obtain ⟨d1, e1, q1⟩ := hr.get (y1 vs (sqT_sub (sqT_sub hq l1.sub) l2.sub))
    obtain ⟨d2, e2, q2⟩ := hr2.get (y2 ws (sqT_sub (sqT_sub hq2 l1.sub) l2.sub))
    have l3 : Le G1 (wupd G1 T (.tup [u, w])) := Le.upd (le_none l2 hn)
    exact ⟨.tuple [d1, d2], zipD_get e1 e2, .inr ⟨T, _, hn, (by intro _ z; cases z), rfl, .inr ⟨T, _, _, rfl, rfl, SqT.of upd_same, .cons ((q1.le l1).le l3) (.cons ((q2.le l1).le l3) .nil)⟩⟩⟩
theorem mi_zip {e2 : Expr} {g : MM (List D)} {tpos : Pos} {elts : List Expr} {kk : Nat} (hg : Gl X "zip") (hm : X.mg "zip" = none) (ha : PA X [e, e2] (mA X.K T c W g))
    (hs : starEach [e, e2] X.env = (false, eval e X.env) :: starEach [e2] X.env := by rfl) (hpl : (backTo pos (starEach [e2] X.env)).any (·.1) = false := by rfl) :
    PI X (.Tuple elts kk tpos) (.Call (.Name "zip" p) [e, e2] [] pos) (mI X.K T c W (relY X.K) (MM.bind g fun ds => lift (zip2 ds))) := by
  refine ⟨fun pins s σ H R I h => (RZ.pi_zipA hg hm ha hs hpl).run pins s σ H R I ?_⟩
  obtain ⟨G, ρ, j, p⟩ := h
  refine pX_bind j p fun ds vs ρ1 G1 H1 l1 j1 r1 p1 => ?_
  cases r1 with
  | nil => exact p1.elim
  | cons d1 r1 =>
    cases r1 with
    | nil => cases d1 <;> exact p1.elim
    | cons d2 r1 =>
      cases r1 with
      | cons _ _ => cases d1 <;> (try exact p1.elim) <;> cases d2 <;> exact p1.elim
      | nil =>
        cases d1 with
        | lst h1 h2 =>
          cases d2 with
          | lst h3 h4 => exact ⟨_, _, _, _, rfl, .inl ⟨sqL_sub (.inl h1) j1.subH, sqL_sub (.inl h3) j1.subH, p1 _ G1 H1 (Le.refl G1) j1 (gives_zipL (.inl h1) h2 (.inl h3) h4)⟩⟩
          | _ => exact p1.elim
        | tup h1 h2 =>
          cases d2 with
          | tup h3 h4 => exact ⟨_, _, _, _, rfl, .inr ⟨sqT_sub h1.sq j1.subH, sqT_sub h3.sq j1.subH, p1 _ G1 H1 (Le.refl G1) j1 (gives_zipT h1.sq h2 h3.sq h4)⟩⟩
          | _ => exact p1.elim
        | _ => cases d2 <;> exact p1.elim
/-! ### enumerate of a list -/
def enumD : Nat → List D → List D
  | _, [] => []
  | i, x :: xs => .tuple [.int i, x] :: enumD (i + 1) xs
theorem enumD_length : ∀ (n : Nat) (xs : List D), (enumD n xs).length = xs.length
  | _, [] => rfl
  | n, x :: xs => by simp [enumD, enumD_length (n + 1) xs]
theorem enumD_get : ∀ {xs : List D} {n i : Nat} {x : D}, xs[i]? = some x → (enumD n xs)[i]? = some (.tuple [.int ((n + i : Nat) : Int), x])
  | [], _, _, _, h => by simp at h
  | a :: xs, n, 0, x, h => by simp at h; subst h; rfl
  | a :: xs, n, i + 1, x, h => by
    simp only [List.getElem?_cons_succ] at h
    show (enumD (n + 1) xs)[i]? = _
    rw [enumD_get (n := n + 1) h]
    congr 4
    omega
def enum1 : List D → Res (List D)
  | [.list xs] => .ok (enumD 0 xs)
  | _ => .stuck
theorem gives_enum {K : Fg} {G : Wd} {a : Addr} {vs : List V} {ds : List D} (hq : SqL K G a vs) (hr : DqAll K G vs ds) : Gives (relY K) (Ite K a) G (enumD 0 ds) where
  go := fun i G1 H l1 l2 hi => by
    rw [enumD_length, ← hr.length] at hi
    exact ⟨vs, vs[i], sqL_sub (sqL_sub hq l1.sub) l2.sub, by simp [hi]⟩
  stop := fun G1 H l1 l2 => ⟨vs, sqL_sub (sqL_sub hq l1.sub) l2.sub, by rw [enumD_length, ← hr.length]; exact Nat.le_refl _⟩
  yld := fun i G1 H x H' l1 l2 hi y => by
    obtain ⟨T, u, rfl, hn, rfl, y1⟩ := y
    obtain ⟨d1, e1, q1⟩ := hr.get (y1 vs (sqL_sub (sqL_sub hq l1.sub) l2.sub))
    have l3 : Le G1 (wupd G1 T (.tup [V.int i, u])) := Le.upd (le_none l2 hn)
    refine ⟨.tuple [.int i, d1], by simpa using enumD_get (n := 0) e1, .inr ⟨T, _, hn, (by intro _ z; cases z), rfl, .inr ⟨T, _, _, rfl, rfl, SqT.of upd_same, .cons (.int _) (.cons ((q1.le l1).le l3) .nil)⟩⟩⟩
theorem mi_enum {g : MM (List D)} {tpos : Pos} {elts : List Expr} {kk : Nat} (hg : Gl X "enumerate") (hm : X.mg "enumerate" = none) (ha : PA X [e] (mA X.K T c W g)) (hs : starEach [e] X.env = [(false, eval e X.env)] := by rfl) :
    PI X (.Tuple elts kk tpos) (.Call (.Name "enumerate" p) [e] [] pos) (mI X.K T c W (relY X.K) (MM.bind g fun ds => lift (enum1 ds))) := by
  refine ⟨fun pins s σ H R I h => (pi_enum hg hm ha hs).run pins s σ H R I ?_⟩
  obtain ⟨G, ρ, j, p⟩ := h
  refine pX_bind j p fun ds vs ρ1 G1 H1 l1 j1 r1 p1 => ?_
  cases r1 with
  | nil => exact p1.elim
  | cons d1 r1 =>
    cases r1 with
    | cons _ _ => cases d1 <;> exact p1.elim
    | nil =>
      cases d1 with
      | lst h1 h2 => exact ⟨_, _, rfl, sqL_sub (.inl h1) j1.subH, p1 _ G1 H1 (Le.refl G1) j1 (gives_enum (.inl h1) h2)⟩
      | _ => exact p1.elim
end
end Mi
set_option Elab.async false
set_option linter.all false
namespace Mi
open PySem L2
section
variable {K : Fg} {T : Tb} {c : Gh} {G G' : Wd} {H H' : Hp} {σ : St} {ρ : MSt}
theorem RS.addr {da : Addr} {s : S} {v : V} (h : RS K da G H s v) (o : s.own = true) : ∃ a u, v = .ref a ∧ G a = none ∧ H a = some u ∧ (∀ ps, u ≠ .tbl ps) ∧ (∀ x q, u ≠ LamX.CodeO x q) ∧ (∀ x, u ≠ .own x) := by
  cases s with
  | d x => cases o
  | sto b μ => cases o
  | ol xs => obtain ⟨a, vs, e, g, hh, _⟩ := h; exact ⟨a, _, e, g, hh, (fun _ z => by cases z), (fun _ _ z => by unfold LamX.CodeO at z; cases z), (fun _ z => by cases z)⟩
  | od xs => obtain ⟨a, vs, e, g, hh, _⟩ := h; exact ⟨a, _, e, g, hh, (fun _ z => by cases z), (fun _ _ z => by unfold LamX.CodeO at z; cases z), (fun _ z => by cases z)⟩
  | dc xs => obtain ⟨_, a, vs, e, g, hh, _⟩ := h; exact ⟨a, _, e, g, hh, (fun _ z => by cases z), (fun _ _ z => by unfold LamX.CodeO at z; cases z), (fun _ z => by cases z)⟩
theorem drop_owns {i : Nat} {a : Addr} (h : a ∈ owns (σ.set i none) (ρ.set i none)) : a ∈ owns σ ρ := by
  obtain ⟨k, s, e1, e2, e3⟩ := mem_owns.mp h
  have z : k ≠ i := fun z => by
    subst z
    by_cases hk : k < ρ.length
    · rw [List.getElem?_set_self hk] at e1; cases e1
    · rw [List.getElem?_eq_none (by simpa using hk)] at e1; cases e1
  rw [List.getElem?_set_ne (Ne.symm z)] at e1 e3
  exact mem_owns.mpr ⟨k, s, e1, e2, e3⟩
/-- a slot that owns -/
theorem J.setOwn (j : J K T c G H σ ρ) {i : Nat} {a : Addr} {s : S} (hi : i + 1 < ρ.length) (r : RS K c.da G H s (.ref a)) (o : s.own = true) (h0 : c.H0 a = none ∨ a ∈ c.M) (no : a ∉ owns (σ.set i none) (ρ.set i none)) (nm : a ∉ G.m) : J K T c G H (σ.set i (some (.ref a))) (ρ.set i (some s)) := by
  have hs : i < σ.length := by have := j.len; omega
  have hi' : i < ρ.length := by omega
  have at_ : ∀ {k : Nat} {t : S}, (ρ.set i (some s))[k]? = some (some t) → (k = i ∧ t = s) ∨ (k ≠ i ∧ ρ[k]? = some (some t)) := fun {k t} e => by
    by_cases z : k = i
    · subst z; rw [List.getElem?_set_self hi'] at e; cases e; exact .inl ⟨rfl, rfl⟩
    · rw [List.getElem?_set_ne (Ne.symm z)] at e; exact .inr ⟨z, e⟩
  have other : ∀ {k : Nat} {t : S} {b : Addr}, k ≠ i → ρ[k]? = some (some t) → t.own = true → σ[k]? = some (some (.ref b)) → a ≠ b := fun {k t b} z e1 e2 e3 q => by
    subst q
    exact no (mem_owns.mpr ⟨k, t, by rw [List.getElem?_set_ne (Ne.symm z)]; exact e1, e2, by rw [List.getElem?_set_ne (Ne.symm z)]; exact e3⟩)
  refine ⟨j.sub, j.g0, j.gn, j.fr, j.ft, by simp [j.len], fun k t e ns => ?_, fun k t b e o e2 => ?_, fun k l t u b d e1 e2 o1 o2 f1 f2 n => ?_, j.tb, j.nt, fun b μ e => ?_, ⟨j.mj.hr, fun b m n => ?_, j.mj.gr, j.mj.nm⟩⟩
  · rcases at_ e with ⟨rfl, rfl⟩ | ⟨z, e⟩
    · exact ⟨.ref a, List.getElem?_set_self hs, r⟩
    · obtain ⟨w, h1, h2⟩ := j.sl k t e ns
      exact ⟨w, by rw [List.getElem?_set_ne (Ne.symm z)]; exact h1, h2⟩
  · rcases at_ e with ⟨rfl, rfl⟩ | ⟨z, e⟩
    · rw [List.getElem?_set_self hs] at e2; cases e2; exact h0
    · rw [List.getElem?_set_ne (Ne.symm z)] at e2; exact j.ow k t b e o e2
  · rcases at_ e1 with ⟨z, q1⟩ | ⟨z, q1⟩
    · rcases at_ e2 with ⟨z2, q2⟩ | ⟨z2, q2⟩
      · exact absurd (z.trans z2.symm) n
      · rw [z, List.getElem?_set_self hs] at f1
        cases f1
        rw [List.getElem?_set_ne (Ne.symm z2)] at f2
        exact other z2 q2 o2 f2
    · rw [List.getElem?_set_ne (Ne.symm z)] at f1
      rcases at_ e2 with ⟨z2, q2⟩ | ⟨z2, q2⟩
      · rw [z2, List.getElem?_set_self hs] at f2
        cases f2
        exact (other z q1 o1 f1).symm
      · rw [List.getElem?_set_ne (Ne.symm z2)] at f2
        exact j.ap k l t u b d q1 q2 o1 o2 f1 f2 n
  · rw [List.length_set] at e
    rw [List.getElem?_set_ne (by omega)] at e
    exact j.st b μ e
  · obtain ⟨k, t, e1, e2, e3⟩ := mem_owns.mp n
    rcases at_ e1 with ⟨z, q1⟩ | ⟨z, q1⟩
    · rw [z, List.getElem?_set_self hs] at e3
      cases e3
      exact nm m
    · rw [List.getElem?_set_ne (Ne.symm z)] at e3
      exact j.mj.ow b m (mem_owns.mpr ⟨k, t, q1, e2, e3⟩)
/-- the slot's own object is changed -/
theorem J.upOwn (j : J K T c G H σ ρ) {i : Nat} {a : Addr} {s s' : S} {o : HO} (e : ρ[i]? = some (some s)) (ho : s.own = true) (hv : σ[i]? = some (some (.ref a))) (ho' : s'.own = true) (r : RS K c.da G (upd H a o) s' (.ref a)) : J K T c G (upd H a o) σ (ρ.set i (some s')) := by
  obtain ⟨v, e1, r1⟩ := j.sl i s e (S.own_sto ho)
  have hn : i < σ.length := (List.getElem?_eq_some_iff.mp hv).1
  have nm : a ∉ G.m := fun m => j.mj.ow a m (mem_owns.mpr ⟨i, s, e, ho, hv⟩)
  rw [hv] at e1
  cases e1
  obtain ⟨a', u, ea, g, hh, t1, t2, t3⟩ := r1.addr ho
  cases ea
  have hi : i < ρ.length := (List.getElem?_eq_some_iff.mp e).1
  have no : a ∉ owns (σ.set i none) (ρ.set i none) := fun m => by
    obtain ⟨k, t, f1, f2, f3⟩ := mem_owns.mp m
    have z : k ≠ i := fun z => by
      subst z
      rw [List.getElem?_set_self hi] at f1; cases f1
    rw [List.getElem?_set_ne (Ne.symm z)] at f1 f3
    exact j.ap i k s t a a e f1 ho f2 hv f3 (Ne.symm z) rfl
  have jd := (j.drop1 i).write (o' := o) g hh t1 t2 (j.ow i s a e ho hv) no nm t3
  have hl : i + 1 < (ρ.set i none).length := by have := j.len; simp; omega
  have js := jd.setOwn (i := i) (a := a) (s := s') hl r ho' (j.ow i s a e ho hv) (by rw [List.set_set, List.set_set]; exact no) nm
  rw [List.set_set, List.set_set] at js
  have es : σ.set i (some (.ref a)) = σ := by
    apply List.ext_getElem?
    intro k
    by_cases z : k = i
    · subst z; rw [List.getElem?_set_self hn, hv]
    · rw [List.getElem?_set_ne (Ne.symm z)]
  rw [es] at js
  exact js
/-- all that is owned, seen as data -/
def seenS : S → Option S
  | .ol xs => some (.d (.list xs))
  | .dc xs => some (.d (.list xs))
  | .od _ => none
  | .d x => some (.d x)
  | .sto _ μ => some (.sto false μ)
def seen (ρ : MSt) : MSt := ρ.map (fun o => o.bind seenS)
theorem seen_get {i : Nat} {s : S} (h : (seen ρ)[i]? = some (some s)) : ∃ t, ρ[i]? = some (some t) ∧ seenS t = some s := by
  unfold seen at h
  rw [List.getElem?_map] at h
  cases e : ρ[i]? with
  | none => rw [e] at h; cases h
  | some o =>
    rw [e] at h
    cases o with
    | none => cases h
    | some t => exact ⟨t, rfl, Option.some.inj h⟩
theorem seenS_own {s t : S} (h : seenS s = some t) : t.own = false := by cases s <;> cases h <;> rfl
open Classical in
noncomputable def withOwn (G : Wd) (H : Hp) (l : List Addr) : Wd := ⟨fun a => if a ∈ l then H a else G a, G.m⟩
theorem withOwn_le (j : J K T c G H σ ρ) : Le G (withOwn G H (owns σ ρ)) := ⟨fun a o e => by
  show (if a ∈ owns σ ρ then H a else G a) = some o
  split
  · exact j.sub a o e
  · exact e, List.prefix_refl _⟩
theorem withOwn_sub (j : J K T c G H σ ρ) : Lh (withOwn G H (owns σ ρ)) H := fun a o e => by
  have e : (if a ∈ owns σ ρ then H a else G a) = some o := e
  split at e
  · exact e
  · exact j.sub a o e
theorem J.seen (j : J K T c G H σ ρ) : J K T ⟨H, withOwn G H (owns σ ρ), [], c.da, false⟩ (withOwn G H (owns σ ρ)) H σ (seen ρ) := by
  refine ⟨withOwn_sub j, Le.refl _, fun _ e _ _ => e, fun _ _ e _ _ => e, fun _ ps e => ⟨ps, e⟩, by unfold Mi.seen; rw [List.length_map]; exact j.len, fun i s e ns => ?_, fun i s a e o _ => ?_, fun i k s t a b e1 e2 o1 o2 f1 f2 n => ?_, j.tb, fun a ps z => ?_, fun b μ e => ?_, ⟨j.mj.hr, fun a m n => ?_, fun a m => .inl m, fun _ => rfl⟩⟩
  · obtain ⟨t, e1, es⟩ := seen_get e
    have nt : t.isSto = false := by cases t <;> first | rfl | (cases es; cases ns)
    obtain ⟨v, h1, r⟩ := j.sl i t e1 nt
    refine ⟨v, h1, ?_⟩
    have l := withOwn_le j
    have at_ : ∀ {a : Addr}, v = .ref a → t.own = true → (withOwn G H (owns σ ρ)).hp a = H a := fun {a} hv o => by
      show (if a ∈ owns σ ρ then H a else G a) = H a
      rw [if_pos (mem_owns.mpr ⟨i, t, e1, o, by rw [← hv]; exact h1⟩)]
    cases t with
    | d x => cases es; exact Dq.le r l
    | ol xs => cases es; obtain ⟨a, vs, rfl, g, hh, r⟩ := r; exact .lst (.inl (by rw [at_ rfl rfl]; exact hh)) (r.le l)
    | dc xs => cases es; obtain ⟨_, a, vs, rfl, g, hh, r⟩ := r; exact .lst (.inl (by rw [at_ rfl rfl]; exact hh)) (r.le l)
    | od xs => cases es
    | sto b μ => cases nt
  · obtain ⟨t, e1, es⟩ := seen_get e
    rw [seenS_own es] at o; cases o
  · obtain ⟨t, e1, es⟩ := seen_get e1
    rw [seenS_own es] at o1; cases o1
  · have z : (if a ∈ owns σ ρ then H a else G a) = _ := z
    split at z
    · rename_i m
      obtain ⟨i, s, h1, h2, h3⟩ := mem_owns.mp m
      obtain ⟨v, q1, q2⟩ := j.sl i s h1 (S.own_sto h2)
      rw [h3] at q1
      cases q1
      obtain ⟨a', u, ea, _, hh, t1, _⟩ := q2.addr h2
      cases ea
      rw [hh] at z
      exact t1 ps (Option.some.inj z)
    · exact j.nt a ps z
  · obtain ⟨t, e1, es⟩ := seen_get e
    have : ∃ b', t = .sto b' μ ∧ b = false := by cases t <;> cases es; exact ⟨_, rfl, rfl⟩
    obtain ⟨b', rfl, rfl⟩ := this
    obtain ⟨s1, s3⟩ := j.st b' μ e1
    refine ⟨s1.keep (withOwn_le j) rfl (fun d g m _ => ?_) fun d o e _ => e, fun z => by cases z⟩
    show (if d ∈ owns σ ρ then H d else G d) = none
    rw [if_neg (fun n => ?_)]
    · exact g
    · rcases m with m | ⟨x, m⟩
      · exact j.mj.ow d m n
      · obtain ⟨i, s, h1, h2, h3⟩ := mem_owns.mp n
        obtain ⟨v, q1, q2⟩ := j.sl i s h1 (S.own_sto h2)
        rw [h3] at q1
        cases q1
        obtain ⟨a', u, ea, _, hh, _, _, t3⟩ := q2.addr h2
        cases ea
        rw [hh] at m
        exact t3 x (Option.some.inj m)
  · obtain ⟨i, s, h1, h2, h3⟩ := mem_owns.mp n
    obtain ⟨t, e1, es⟩ := seen_get h1
    rw [seenS_own es] at h2; cases h2
/-- .. and back, nothing of it kept -/
theorem J.unseen (j : J K T c G H σ ρ) {G2 : Wd} {ρ2 : MSt} (j2 : J K T ⟨H, withOwn G H (owns σ ρ), [], c.da, false⟩ G2 H' σ ρ2) : J K T c G H' σ ρ :=
  j.after ⟨Le.refl G, ((withOwn_le j).trans j2.g0).lh j2.sub, fun _ e _ => e, fun a o e t => j2.fr a o e (by simp) t, j2.ft, j2.tb, j.nt, rfl⟩
end
def scal : D → Bool
  | .none | .bool _ | .int _ | .str _ => true
  | _ => false
def borrow (f : MM D) : MM D := fun ρ => match f (seen ρ) with
  | .ok d _ => if scal d = true then .ok d ρ else .stuck
  | _ => .stuck
def borrowT (f : MM Bool) : MM Bool := fun ρ => match f (seen ρ) with
  | .ok d _ => .ok d ρ
  | _ => .stuck
theorem scal_dq {K : Fg} {G G' : Wd} {v : V} {d : D} (h : Dq K G v d) (s : scal d = true) : Dq K G' v d := by
  cases h with
  | non => exact .non
  | bl b => exact .bl b
  | int i => exact .int i
  | str x => exact .str x
  | _ => cases s
section
variable {X : Cx} {T : Tb} {c : Gh} {W : WX} {a b e : Expr} {f f1 f2 f3 : MM D} {pos p : Pos}
theorem me_borrow (h : ∀ c, PE X e (mE X.K T c W0 f)) : PE X e (mE X.K T c W (borrow f)) := by
  refine ⟨fun pins s σ H Q I ⟨G, ρ, j, p⟩ => ?_⟩
  refine (h ⟨H, withOwn G H (owns σ ρ), [], c.da, false⟩).run pins s σ H Q I ⟨_, _, j.seen, ?_⟩
  unfold borrow at p
  cases z : f (seen ρ) with
  | ok d ρ2 =>
    rw [z] at p
    by_cases sc : scal d = true
    · simp only [sc, if_true] at p
      exact fun v G' H' l j' dv => p v G H' (Le.refl G) (j.unseen j') (scal_dq dv sc)
    · simp only [sc] at p; exact p.elim
  | exn y ρ2 => rw [z] at p; exact p.elim
  | stuck => rw [z] at p; exact p.elim
theorem mt_borrow {f : MM Bool} (h : ∀ c, PT X e (mT X.K T c W0 f)) : PT X e (mT X.K T c W (borrowT f)) := by
  refine ⟨fun pins s σ H Q I ⟨G, ρ, j, p⟩ => ?_⟩
  refine (h ⟨H, withOwn G H (owns σ ρ), [], c.da, false⟩).run pins s σ H Q I ⟨_, _, j.seen, ?_⟩
  unfold borrowT at p
  cases z : f (seen ρ) with
  | ok d ρ2 =>
    rw [z] at p
    exact fun v G' H' l j' dv => p v G H' (Le.refl G) (j.unseen j') dv
  | exn y ρ2 => rw [z] at p; exact p.elim
  | stuck => rw [z] at p; exact p.elim
/-! ### owned lists and dicts -/
def newS (i : Nat) (s : S) : MM Fl := fun ρ => if i + 1 < ρ.length then .ok .nx (ρ.set i (some s)) else .stuck
theorem J.newOwn {K : Fg} {G : Wd} {H : Hp} {σ : St} {ρ : MSt} {q : Addr} {s : S} {o : HO} {i : Nat} (j : J K T c G H σ ρ) (hq : H q = none) (hi : i + 1 < ρ.length) (ho : s.own = true) (r : RS K c.da G (upd H q o) s (.ref q)) : J K T c G (upd H q o) (σ.set i (some (.ref q))) (ρ.set i (some s)) :=
  (j.aside hq).setOwn hi r ho (j.H0none hq) ((j.drop1 i).notOwn hq) (j.freshM hq)
theorem ms_newL {i : Nat} {x : Str} {pos' lp : Pos} (hN : X.N.Nodup) (hi : X.N[i]? = some x) (hx : Loc X.env.scope x) (hs : swapsWith (.List [] lp) (some (.Name x pos')) pos.line X.env = pure false := by rfl) (hf : X.fn x = true ∨ X.env.scope.names.lookup x = some .local := by first | exact .inl rfl | exact .inr rfl | assumption) :
    PS X (.Assign [.Name x pos'] (.List [] lp) pos) (mS X.K T c W (newS i (.ol []))) := by
  refine ps_mono (ps_set (pos' := pos') hN hi hx (pe_lst pa_nil) hs hf) fun Dn σ H ⟨G, ρ, j, p⟩ => ?_
  unfold newS at p
  split at p
  · rename_i hl
    refine ⟨Nat.zero_le _, fun q hq => p _ G _ (Le.refl G) (j.newOwn hq hl rfl ⟨q, [], rfl, j.fresh hq, upd_same, .nil⟩)⟩
  · exact p.elim
theorem ms_newD {i : Nat} {x : Str} {pos' lp : Pos} (hN : X.N.Nodup) (hi : X.N[i]? = some x) (hx : Loc X.env.scope x) (hs : swapsWith (.Dict [] [] lp) (some (.Name x pos')) pos.line X.env = pure false := by rfl) (hf : X.fn x = true ∨ X.env.scope.names.lookup x = some .local := by first | exact .inl rfl | exact .inr rfl | assumption) :
    PS X (.Assign [.Name x pos'] (.Dict [] [] lp) pos) (mS X.K T c W (newS i (.od []))) := by
  refine ps_mono (ps_set (pos' := pos') hN hi hx pe_dnewK hs hf) fun Dn σ H ⟨G, ρ, j, p⟩ => ?_
  unfold newS at p
  split at p
  · rename_i hl
    exact fun q hq => p _ G _ (Le.refl G) (j.newOwn hq hl rfl ⟨q, [], rfl, j.fresh hq, upd_same, .nil⟩)
  · exact p.elim
/-- {} as data -/
theorem me_dnew : PE X (.Dict [] [] pos) (mE X.K T c W (MM.pure (.dict []))) :=
  pe_mono (pe_lockV pe_dnewK) fun σ H Q ⟨G, ρ, j, p⟩ => fun q hq => LockQ.new trivial fun od => p _ _ _ (Le.upd (j.fresh hq)) (j.grow hq) (.dic ⟨_, upd_same⟩ .nil)
/-- x.append(e) -/
def appS (i : Nat) (f : MM D) : MM Fl := fun ρ => match ρ[i]? with
  | some (some (.ol _)) => MM.bind f (fun d ρ' => match ρ'[i]? with
    | some (some (.ol xs)) => if xs.length < sizeLine then .ok .nx (ρ'.set i (some (.ol (xs ++ [d])))) else .stuck
    | _ => .stuck) ρ
  | _ => .stuck
theorem ms_append {i : Nat} {x : Str} {xp apos cpos : Pos} (hN : X.N[i]? = some x) (hv : Vis X.env.scope x) (he : PE X e (mE X.K T c W f)) (hd : (x == ("__debug__" : Str)) = false := by decide) (hcd : (x == ("__classdict__" : Str)) = false := by decide)
    (hbase : attributeBase (.Name x xp) "append" X.env (eval (.Name x xp) X.env) = eval (.Name x xp) X.env := by rfl)
    (hfew : ((backTo cpos (starEach [e] X.env)).all (fun x => !x.1) && (backToKw cpos (keywordEach [] X.env)).all (fun x => x.1.isSome)
      && decide ([e].length + ([] : List Keyword).length + (if ([] : List Keyword).isEmpty then 0 else 1) < 30)) = true := by rfl)
    (hline : (apos.endLine == cpos.line) = true := by rfl) (hs : starEach [e] X.env = (false, eval e X.env) :: starEach [] X.env := by rfl) (hplain : (backTo cpos (starEach [] X.env)).any (·.1) = false := by rfl)
    (hsw : swapsWith (.Call (.Attribute (.Name x xp) "append" apos) [e] [] cpos) none pos.line X.env = pure false := by rfl) :
    PS X (.Expr (.Call (.Attribute (.Name x xp) "append" apos) [e] [] cpos) pos) (mS X.K T c W (appS i f)) := by
  refine ps_mono (ps_expr (pe_bm PySem.F.plainAttrs_list PySem.F.slot_list_append PySem.F.type_list_append mt_append (pe_var (i := i) (pos := xp) hN hv hd hcd) (pa_cons he pa_nil hs) hbase hfew hline hs hplain) hsw) fun Dn σ H ⟨G, ρ, j, p⟩ => ?_
  unfold appS at p
  split at p
  · rename_i xs hx
    obtain ⟨v, e1, al, vs, rfl, g, hh, r⟩ := j.sl i _ hx
    refine ⟨_, e1, .inl ⟨rfl, _, SqL.of hh⟩, ?_⟩
    refine pS_bind j p fun d w ρ1 G1 H1 l1 j1 r1 p1 => ?_
    split at p1
    · rename_i ys hy
      by_cases hz : ys.length < sizeLine
      · rw [if_pos hz] at p1
        obtain ⟨v2, e2, bl, ws, rfl, g2, hh2, r2⟩ := j1.sl i _ hy
        rw [e1] at e2
        cases e2
        exact ⟨_, ws, w, rfl, rfl, hh2, by rw [r2.length]; exact hz, p1 σ G1 _ (Le.refl G1) (j1.upOwn hy rfl e1 rfl ⟨_, _, rfl, g2, upd_same, r2.app (.one r1)⟩)⟩
      · rw [if_neg hz] at p1; exact p1.elim
    · exact p1.elim
  · exact p.elim
/-- x[k] = v, x an owned dict -/
def putS (i : Nat) (fv fk : MM D) : MM Fl := MM.bind fv fun v => fun ρ => match ρ[i]? with
  | some (some (.od _)) => MM.bind fk (fun k ρ' => match ρ'[i]?, keyOf k with
    | some (some (.od kvs)), some _ => if kvs.length < sizeLine then .ok .nx (ρ'.set i (some (.od (putD kvs k v)))) else .stuck
    | _, _ => .stuck) ρ
  | _ => .stuck
theorem ms_put {i : Nat} {x : Str} {xp pos' : Pos} {value : Expr} {fv fk : MM D} (hu : X.A.units + 1 < cLine) (hN : X.N[i]? = some x) (hv : Vis X.env.scope x) (hk : PE X e (mE X.K T c W fk)) (he : PE X value (mE X.K T c W fv)) (hs : swapsWith value (some (.Subscript (.Name x xp) e pos')) pos.line X.env = pure false := by rfl)
    (hd : (x == ("__debug__" : Str)) = false := by decide) (hcd : (x == ("__classdict__" : Str)) = false := by decide) : PS X (.Assign [.Subscript (.Name x xp) e pos'] value pos) (mS X.K T c W (putS i fv fk)) := by
  refine ps_mono (ps_dput hu (pe_var (i := i) (pos := xp) hN hv hd hcd) hk he hs) fun Dn σ H ⟨G, ρ, j, p⟩ => ?_
  refine pS_bind j p fun d w ρ1 G1 H1 l1 j1 r1 p1 => ?_
  split at p1
  · rename_i kvs hx
    obtain ⟨v, e1, al, vs, rfl, g, hh, r⟩ := j1.sl i _ hx
    refine ⟨_, e1, ?_⟩
    refine pS_bind j1 p1 fun k y ρ2 G2 H2 l2 j2 r2 p2 => ?_
    split at p2
    · rename_i kvs2 key hy hkey
      by_cases hz : kvs2.length < sizeLine
      · rw [if_pos hz] at p2
        obtain ⟨v2, e2, bl, ws, rfl, g2, hh2, r3⟩ := j2.sl i _ hy
        rw [e1] at e2
        cases e2
        have ek := keyOf_keyD hkey
        subst ek
        have ev := dq_key r2
        subst ev
        exact ⟨_, _, rfl, DPut.k hh2 (by rw [r3.length]; exact hz), p2 σ G2 _ (Le.refl G2) (j2.upOwn hy rfl e1 rfl ⟨_, _, rfl, g2, upd_same, r3.put (r1.le l2)⟩)⟩
      · rw [if_neg hz] at p2; exact p2.elim
    · exact p2.elim
  · exact p1.elim
/-- from now on it stands still -/
def frzS (i : Nat) (ρ : MSt) : MSt := match ρ[i]? with
  | some (some (.ol xs)) => ρ.set i (some (.d (.list xs)))
  | some (some (.od kvs)) => ρ.set i (some (.d (.dict kvs)))
  | _ => ρ
theorem set_same_val {σ : St} {i : Nat} {v : V} (h : σ[i]? = some (some v)) : σ.set i (some v) = σ := by
  apply List.ext_getElem?
  intro k
  by_cases z : k = i
  · subst z; rw [List.getElem?_set_self (List.getElem?_eq_some_iff.mp h).1, h]
  · rw [List.getElem?_set_ne (Ne.symm z)]
theorem J.frz1 {K : Fg} {G : Wd} {H : Hp} {σ : St} {ρ : MSt} (j : J K T c G H σ ρ) (i : Nat) : (∃ G', Le G G' ∧ J K T c G' H σ (frzS i ρ)) ∨ ∃ d kvs, H d = some (.dK kvs) ∧ ∀ od, ∃ G', Le G G' ∧ J K T c G' (upd H d (.frz od (.dK kvs))) σ (frzS i ρ) := by
  have key : ∀ {s : S} {a : Addr} {o o' : HO} {d : D}, ρ[i]? = some (some s) → s.own = true → σ[i]? = some (some (.ref a)) → G a = none → H a = some o → (∀ ps, o ≠ .tbl ps) → (∀ x q, o ≠ LamX.CodeO x q) → (∀ x, o ≠ .own x) → (∀ ps, o' ≠ .tbl ps) → (∀ x, o' ≠ .own x) → (Le G (wupd G a o') → Dq K (wupd G a o') (.ref a) d) → Le G (wupd G a o') ∧ J K T c (wupd G a o') (upd H a o') σ (ρ.set i (some (.d d))) := fun {s a o o' d} e ho hv g hh t1 t2 t3 nt nw hd => by
    have nm : a ∉ G.m := fun m => j.mj.ow a m (mem_owns.mpr ⟨i, s, e, ho, hv⟩)
    have hn : i < σ.length := (List.getElem?_eq_some_iff.mp hv).1
    have hi : i < ρ.length := (List.getElem?_eq_some_iff.mp e).1
    have no : a ∉ owns (σ.set i none) (ρ.set i none) := fun m => by
      obtain ⟨k, t, f1, f2, f3⟩ := mem_owns.mp m
      have z : k ≠ i := fun z => by
        subst z
        rw [List.getElem?_set_self hi] at f1; cases f1
      rw [List.getElem?_set_ne (Ne.symm z)] at f1 f3
      exact j.ap i k s t a a e f1 ho f2 hv f3 (Ne.symm z) rfl
    have jw := (j.drop1 i).write (o' := o') g hh t1 t2 (j.ow i s a e ho hv) no nm t3
    have js := (jw.still g upd_same (j.ow i s a e ho hv) no nm nt nw).set (i := i) (v := .ref a) (d := d) (by have := j.len; simp; omega) (hd (Le.upd g))
    rw [List.set_set, List.set_set, set_same_val hv] at js
    exact ⟨Le.upd g, js⟩
  have self : ∀ {a : Addr} {o : HO}, H a = some o → upd H a o = H := fun {a o} e => by
    funext b
    by_cases z : b = a
    · subst z; rw [upd_same, e]
    · rw [upd_ne z]
  unfold frzS
  split
  · rename_i xs hx
    obtain ⟨v, e1, a, vs, rfl, g, hh, r⟩ := j.sl i _ hx
    have q := key (o' := .lst vs) (d := .list xs) hx rfl e1 g hh (fun _ z => by cases z) (fun _ _ z => by unfold LamX.CodeO at z; cases z) (fun _ z => by cases z) (fun _ z => by cases z) (fun _ z => by cases z) fun l => .lst (.inl upd_same) (r.le l)
    rw [self hh] at q
    exact .inl ⟨_, q⟩
  · rename_i xs hx
    obtain ⟨v, e1, a, vs, rfl, g, hh, r⟩ := j.sl i _ hx
    refine .inr ⟨a, vs, hh, fun od => ⟨_, key (o' := .frz od (.dK vs)) (d := .dict xs) hx rfl e1 g hh (fun _ z => by cases z) (fun _ _ z => by unfold LamX.CodeO at z; cases z) (fun _ z => by cases z) (fun _ z => by cases z) (fun _ z => by cases z) fun l => .dic ⟨_, upd_same⟩ (r.le l)⟩⟩
  · exact .inl ⟨G, Le.refl G, j⟩
theorem ms_freeze {sts : List Stmt} {s : MM Fl} (i : Nat) (h : PSs X sts (mS X.K T c W s)) : PSs X sts (mS X.K T c W (fun ρ => s (frzS i ρ))) := by
  refine ⟨fun pins sh σ H Dn I ⟨G, ρ, j, p⟩ => ?_⟩
  rcases j.frz1 i with ⟨G', l, j'⟩ | ⟨d, kvs, hd, k⟩
  · exact h.run pins sh σ H Dn I ⟨G', _, j', pS.le l p⟩
  · refine (pss_lockV h).run pins sh σ H Dn I ⟨d, _, hd, trivial, fun od => ?_⟩
    obtain ⟨G', l, j'⟩ := k od
    exact ⟨G', _, j', pS.le l p⟩
end
end Mi
set_option Elab.async false
set_option linter.all false
set_option maxRecDepth 100000
set_option maxHeartbeats 4000000
namespace Mi
open PySem L2
/-! ### new objects that are still owned -/
section
variable (K : Fg) (T : Tb) (c : Gh) (W : WX)
def pO (σ : St) (G : Wd) (Q : VK) : Out S → Prop
  | .ok s ρ' => ∀ D G' H', Le G G' → J K T c G' H' σ ρ' → s.own = true → RS K c.da G' H' s (.ref D) → (c.H0 D = none ∨ D ∈ c.M) → D ∉ owns σ ρ' ∧ D ∉ G'.m → Q (.ref D) H'
  | .exn e ρ' => ∀ cls dx G' H', Le G G' → J K T c G' H' σ ρ' → IsX K H' e cls dx → W cls dx σ H'
  | .stuck => False
def mO (f : MM S) : TE := fun σ H Q => ∃ G ρ, J K T c G H σ ρ ∧ pO K T c W σ G Q (f ρ)
end
section
variable {X : Cx} {T : Tb} {c : Gh} {W : WX} {a b e : Expr} {f f1 f2 f3 : MM D} {pos p : Pos}
/-- owned, put into a slot -/
theorem J.keep {K : Fg} {G : Wd} {H : Hp} {σ : St} {ρ : MSt} {D : Addr} {s : S} {i : Nat} (j : J K T c G H σ ρ) (hi : i + 1 < ρ.length) (ho : s.own = true) (r : RS K c.da G H s (.ref D)) (h0 : c.H0 D = none ∨ D ∈ c.M) (no : D ∉ owns σ ρ ∧ D ∉ G.m) : J K T c G H (σ.set i (some (.ref D))) (ρ.set i (some s)) :=
  j.setOwn hi r ho h0 (fun m => no.1 (drop_owns m)) no.2
/-- .. or data from now on -/
def asD : S → Res D
  | .ol xs => .ok (.list xs)
  | .od kvs => .ok (.dict kvs)
  | _ => .stuck
theorem me_asD {fo : MM S} (h : PE X e (mO X.K T c W fo)) : PE X e (mE X.K T c W (MM.bind fo fun s => lift (asD s))) := by
  refine ⟨fun pins sh σ H Q I ⟨G, ρ, j, p⟩ => ?_⟩
  have key : ∀ {G : Wd} {H : Hp} {ρ : MSt} {D : Addr} {o o' : HO}, J X.K T c G H σ ρ → G D = none → H D = some o → (∀ ps, o ≠ .tbl ps) → (∀ x q, o ≠ LamX.CodeO x q) → (c.H0 D = none ∨ D ∈ c.M) → D ∉ owns σ ρ ∧ D ∉ G.m → (∀ x, o ≠ .own x) → (∀ ps, o' ≠ .tbl ps) → (∀ x, o' ≠ .own x) → J X.K T c (wupd G D o') (upd H D o') σ ρ := fun j g hh t1 t2 h0 no t3 nt nw => (j.write g hh t1 t2 h0 no.1 no.2 t3).still g upd_same h0 no.1 no.2 nt nw
  have q : mO X.K T c W fo σ H (fun v H1 => Q v H1 ∨ LockQ Q v H1) := by
    refine ⟨G, ρ, j, ?_⟩
    unfold MM.bind at p
    cases z : fo ρ with
    | ok s ρ1 =>
      rw [z] at p
      intro D G1 H1 l1 j1 ho r h0 no
      cases s with
      | ol xs =>
        obtain ⟨a, vs, e1, g, hh, r⟩ := r
        cases e1
        have js := j1.still g hh h0 no.1 no.2
        exact .inl (p _ _ _ (l1.trans (Le.upd g)) js (.lst (.inl upd_same) (r.le (Le.upd g))))
      | od xs =>
        obtain ⟨a, vs, e1, g, hh, r⟩ := r
        cases e1
        exact .inr ⟨D, _, rfl, hh, trivial, fun od => p _ _ _ (l1.trans (Le.upd g)) (key j1 g hh (fun _ z => by cases z) (fun _ _ z => by unfold LamX.CodeO at z; cases z) h0 no (fun _ z => by cases z) (fun _ z => by cases z) (fun _ z => by cases z)) (.dic ⟨_, upd_same⟩ (r.le (Le.upd g)))⟩
      | dc xs => exact p.elim
      | d xs => exact p.elim
      | sto b μ => exact p.elim
    | exn y ρ1 => rw [z] at p; exact p
    | stuck => rw [z] at p; exact p.elim
  refine thn (h.run pins sh σ H _ I q) fun v s1 ⟨x, H1, I1, r1, q1⟩ => ?_
  rcases q1 with q1 | ⟨d, u, e1, hd, mu, k⟩
  · exact ⟨x, H1, I1, r1, q1⟩
  · obtain ⟨od, I2⟩ := I1.lock hd mu
    exact ⟨x, _, I2, r1, k od⟩
def newO (fo : MM S) (i : Nat) : MM Fl := MM.bind fo fun s => newS i s
theorem newO_to {fo : MM S} {i : Nat} (Dn : Ends) (σ : St) (H : Hp) (h : mS X.K T c W (newO fo i) Dn σ H) : tAsg (mO X.K T c W fo) (gName i) Dn σ H := by
  obtain ⟨G, ρ, j, p⟩ := h
  refine ⟨G, ρ, j, ?_⟩
  unfold newO MM.bind at p
  cases z : fo ρ with
  | ok s ρ1 =>
    rw [z] at p
    intro D G1 H1 l1 j1 ho r h0 no
    have p2 : pS X.K T c W Dn G (newS i s ρ1) := p
    unfold newS at p2
    by_cases hl : i + 1 < ρ1.length
    · rw [if_pos hl] at p2
      exact p2 _ G1 H1 l1 (j1.keep hl ho r h0 no)
    · rw [if_neg hl] at p2; exact p2.elim
  | exn y ρ1 => rw [z] at p; exact fun cls dx G' H' l j' i => p cls dx σ G' H' l j' i
  | stuck => rw [z] at p; exact p.elim
theorem ms_newO {i : Nat} {x : Str} {pos' : Pos} {fo : MM S} (hN : X.N.Nodup) (hi : X.N[i]? = some x) (hx : Loc X.env.scope x) (he : PE X e (mO X.K T c W fo)) (hs : swapsWith e (some (.Name x pos')) pos.line X.env = pure false := by rfl) (hf : X.fn x = true ∨ X.env.scope.names.lookup x = some .local := by first | exact .inl rfl | exact .inr rfl | assumption) :
    PS X (.Assign [.Name x pos'] e pos) (mS X.K T c W (newO fo i)) := ps_mono (ps_set (pos' := pos') hN hi hx he hs hf) newO_to
end
/-! ### {k: v for ..} -/
def compK (os : List Nat) (g : D → MSt → Option MSt) (t : MM Bool) (ek ev : MM D) : List D → List (D × D) → MM (List (D × D))
  | [], acc => MM.pure acc
  | x :: xs, acc => fun ρ => match g x (wipeM ρ os) with
    | none => .stuck
    | some ρ1 => match t ρ1 with
      | .ok true ρ2 => match ek ρ2 with
        | .ok k ρ3 => match ev ρ3 with
          | .ok y ρ4 => if acc.length < sizeLine ∧ (keyOf k).isSome = true then compK os g t ek ev xs (putD acc k y) ρ4 else .stuck
          | _ => .stuck
        | _ => .stuck
      | .ok false ρ2 => compK os g t ek ev xs acc ρ2
      | _ => .stuck
def compO (os : List Nat) (g : D → MSt → Option MSt) (t : MM Bool) (ek ev : MM D) (xs : List D) : MM S := fun ρ => match compK os g t ek ev xs [] ρ with
  | .ok ys ρe => .ok (.od ys) (restore os ρ ρe)
  | _ => .stuck
theorem restore_owns {os : List Nat} {ρ1 ρe : MSt} {σ : St} {D : Addr} (h : D ∈ owns σ (restore os ρ1 ρe)) : D ∈ owns (wipe σ os) (wipeM ρe os) := by
  obtain ⟨k, s, e1, e2, e3⟩ := mem_owns.mp h
  rcases restore_at e1 with ⟨z, x, rfl, q⟩ | ⟨z, q⟩
  · cases e2
  · exact mem_owns.mpr ⟨k, s, by rw [wipeM_out z]; exact q, e2, by rw [wipe_out z]; exact e3⟩
section
variable {X : Cx} {T : Tb} {c : Gh} {W : WX} {elt kx vx tg iter : Expr} {ifs : List Expr} {scope : Scope} {own : List (Str × Nat)} {pos spos : Pos} {fi : MM (List D)} {rel : Wd → V → D → Prop} {g : D → MSt → Option MSt} {t : MM Bool} {e ek ev : MM D} {os : List Nat}
theorem dc_to (σ : St) (H : Hp) (Q : VK) (h : mO X.K T c W (MM.bind fi (compO os g t ek ev)) σ H Q) : tDc (mI X.K T c W rel fi) (xG X.K T rel os g) (xT X.K T t) (xE X.K T ek) (xE X.K T ev) os σ H Q := by
  obtain ⟨G, ρ, j, p⟩ := h
  refine ⟨G, ρ, j, ?_⟩
  unfold MM.bind at p
  cases zf : fi ρ with
  | exn y ρ1 => rw [zf] at p; exact p
  | stuck => rw [zf] at p; exact p.elim
  | ok xs ρ1 =>
  rw [zf] at p
  intro Jt G1 H1 l1 j1 r1
  intro D hD1
  have h0 : c.H0 D = none ∨ D ∈ c.M := j1.H0none hD1
  have pc0 : (match compK os g t ek ev xs [] ρ1 with | .ok ys ρe => pO X.K T c W σ G1 Q (.ok (.od ys) (restore os ρ1 ρe)) | _ => False) := by
    have p2 : pO X.K T c W σ G Q (compO os g t ek ev xs ρ1) := p
    unfold compO at p2
    cases q : compK os g t ek ev xs [] ρ1 with
    | ok ys ρe => rw [q] at p2; exact fun D G' H' l => p2 D G' H' (l1.trans l)
    | exn y ρe => rw [q] at p2; exact p2.elim
    | stuck => rw [q] at p2; exact p2.elim
  refine ⟨fun i m H => m = xs.length - i ∧ i ≤ xs.length ∧ ∃ G ρb vs acc, Le G1 G ∧ J X.K T c G H (wipe σ os) (wipeM ρb os) ∧ H D = some (.dK vs) ∧ G D = none ∧ DqKV X.K G vs acc ∧ (D ∉ owns (wipe σ os) (wipeM ρb os) ∧ D ∉ G.m) ∧
      (match compK os g t ek ev (xs.drop i) acc ρb with | .ok ys ρe => pO X.K T c W σ G1 Q (.ok (.od ys) (restore os ρ1 ρe)) | _ => False),
    ⟨xs.length, by simp, Nat.zero_le _, G1, ρ1, [], [], Le.refl G1, (j1.wipe os).aside hD1, upd_same, j1.fresh hD1, .nil, ⟨(j1.wipe os).notOwn hD1, j1.freshM hD1⟩, by simpa using pc0⟩, ?_⟩
  rintro i m H2 ⟨rfl, hi, G2, ρb, vs, acc, l2, j2, hD, hGD, dqa, no, pc⟩
  by_cases hlt : i < xs.length
  · refine .inr ⟨r1.go i G2 H2 l2 j2.sub hlt, fun H => ∃ G ρb vs acc, Le G1 G ∧ J X.K T c G H (wipe σ os) (wipeM ρb os) ∧ H D = some (.dK vs) ∧ G D = none ∧ DqKV X.K G vs acc ∧ (D ∉ owns (wipe σ os) (wipeM ρb os) ∧ D ∉ G.m) ∧
        (match compK os g t ek ev (xs.drop (i + 1)) acc ρb with | .ok ys ρe => pO X.K T c W σ G1 Q (.ok (.od ys) (restore os ρ1 ρe)) | _ => False),
      fun H' q => ⟨xs.length - (i + 1), by omega, rfl, hlt, q⟩, fun x H3 y => ?_⟩
    obtain ⟨d, hd, q⟩ := r1.yld i G2 H2 x H3 l2 j2.sub hlt y
    obtain ⟨G3, l3, j3, dq, hD3, hGD3, nm3⟩ : ∃ G3, Le G2 G3 ∧ J X.K T c G3 H3 (wipe σ os) (wipeM ρb os) ∧ rel G3 x d ∧ H3 D = some (.dK vs) ∧ G3 D = none ∧ D ∉ G3.m := by
      rcases q with ⟨rfl, dq⟩ | ⟨p, o, hn, nt, rfl, dq⟩
      · exact ⟨G2, Le.refl _, j2, dq, hD, hGD, no.2⟩
      · exact ⟨_, Le.upd (j2.fresh hn), j2.grow hn nt, dq, upd_here hD hn, by show upd G2.hp p o D = none; rw [upd_ne (ne_of_none hD hn)]; exact hGD, no.2⟩
    rw [drop_cons hd] at pc
    unfold compK at pc
    cases eg : g d (wipeM ρb os) with
    | none => simp only [eg] at pc
    | some ρ2 =>
      simp only [eg] at pc
      refine ⟨here c G3 H3 (wipe σ os) (wipeM ρb os), G3, wipeM ρb os, d, j3.here, dq, ?_⟩
      rw [eg]
      intro σ' G4 H4 hw l4 j4
      have hw' : wipe σ' os = wipe σ os := by rw [hw, wipe_wipe]
      refine ⟨hw', here c G3 H3 (wipe σ os) (wipeM ρb os), G4, ρ2, j4, ?_⟩
      have fin : ∀ {G5 : Wd} {H5 : Hp} {ρ5 : MSt}, J X.K T (here c G3 H3 (wipe σ os) (wipeM ρb os)) G5 H5 σ' ρ5 → J X.K T c G5 H5 (wipe σ os) (wipeM ρ5 os) ∧ H5 D = some (.dK vs) ∧ G5 D = none ∧ D ∉ owns (wipe σ os) (wipeM ρ5 os) ∧ D ∉ G5.m := fun {G5 H5 ρ5} j5 => by
        have jw := j5.wipe os
        rw [hw'] at jw
        have nh := not_here (c := c) (H := H3) (G := G3) (σ := wipe σ os) (ρ := wipeM ρb os) ⟨no.1, nm3⟩
        have h3 : (here c G3 H3 (wipe σ os) (wipeM ρb os)).H0 D ≠ none := by show H3 D ≠ none; rw [hD3]; exact fun z => by cases z
        exact ⟨j3.back jw, j5.fr D _ hD3 nh (fun _ z => by cases z), j5.gn D hGD3 h3 nh, jw.apart h3 nh nm3⟩
      cases et : t ρ2 with
      | ok b ρ3 =>
        simp only [et] at pc
        intro b' G5 H5 l5 j5 rb
        cases rb
        cases b with
        | true =>
          rw [if_pos rfl]
          refine ⟨here c G3 H3 (wipe σ os) (wipeM ρb os), G5, ρ3, j5, ?_⟩
          cases ee : ek ρ3 with
          | ok y ρ4 =>
            simp only [ee] at pc
            intro v G6 H6 l6 j6 dv
            refine ⟨here c G3 H3 (wipe σ os) (wipeM ρb os), G6, ρ4, j6, ?_⟩
            cases ev' : ev ρ4 with
            | ok yv ρ5 =>
              simp only [ev'] at pc
              intro u G7 H7 l7 j7 du
              obtain ⟨f1, f2, f3, f4⟩ := fin j7
              by_cases hz : acc.length < sizeLine ∧ (keyOf y).isSome = true
              · rw [if_pos hz] at pc
                obtain ⟨k, hk⟩ := Option.isSome_iff_exists.mp hz.2
                have ek := keyOf_keyD hk
                subst ek
                have evv := dq_key dv
                subst evv
                have l : Le G2 G7 := (((l3.trans l4).trans l5).trans l6).trans l7
                refine ⟨vs, k, rfl, f2, by rw [dqa.length]; exact hz.1, G7, ρ5, putK vs k u, putD acc (keyD k) yv, l2.trans l, f1.write f3 f2 (fun _ z => by cases z) (fun _ _ z => by unfold LamX.CodeO at z; cases z) h0 f4.1 f4.2, upd_same, f3, (dqa.le l).put du, f4, pc⟩
              · rw [if_neg hz] at pc
                exact pc.elim
            | exn y ρ4 => simp only [ev'] at pc
            | stuck => simp only [ev'] at pc
          | exn y ρ4 => simp only [ee] at pc
          | stuck => simp only [ee] at pc
        | false =>
          rw [if_neg Bool.false_ne_true]
          obtain ⟨f1, f2, f3, f4⟩ := fin j5
          have l : Le G2 G5 := (l3.trans l4).trans l5
          exact ⟨G5, ρ3, vs, acc, l2.trans l, f1, f2, f3, dqa.le l, f4, pc⟩
      | exn y ρ3 => simp only [et] at pc
      | stuck => simp only [et] at pc
  · have ei : i = xs.length := by omega
    subst ei
    rw [List.drop_length] at pc
    refine .inl ⟨r1.stop G2 H2 l2 j2.sub, ?_⟩
    exact pc D G2 H2 l2 (j1.restore l2 j2) rfl ⟨D, vs, rfl, hGD, hD, dqa⟩ h0 ⟨fun m => no.1 (restore_owns m), no.2⟩
theorem mo_dc (hc : X.calm = true) (hN : X.N.Nodup) (hi : PI X tg iter (mI X.K T c W rel fi)) (ok : BlkOk X.N X.env.scope scope own) (ho : own.map (·.2) = os)
    (hg : ∀ (c : Gh) (s : Shared) (H : Hp) (C : Addr) (cl : List (Str × Addr)) (fp : List Addr), PG (X.blk s H scope (compEnvC scope cl C X.env) fp) tg (mG X.K T c rel os g)) (ht : ∀ (c : Gh) (s : Shared) (H : Hp) (C : Addr) (cl : List (Str × Addr)) (fp : List Addr), PTs (X.blk s H scope (compEnvC scope cl C X.env) fp) ifs (mT X.K T c W0 t))
    (hk : ∀ (c : Gh) (s : Shared) (H : Hp) (C : Addr) (cl : List (Str × Addr)) (fp : List Addr), PE (X.blk s H scope (compEnvC scope cl C X.env) fp) kx (mE X.K T c W0 ek))
    (he : ∀ (c : Gh) (s : Shared) (H : Hp) (C : Addr) (cl : List (Str × Addr)) (fp : List Addr), PE (X.blk s H scope (compEnvC scope cl C X.env) fp) vx (mE X.K T c W0 ev)) (hs : ∀ x, foldedSetIterable iter X.env x = pure x := by intro _; rfl) :
    PE X (.DictComp kx vx [⟨tg, iter, ifs, 0⟩] scope pos) (mO X.K T c W (MM.bind fi (compO os g t ek ev))) := by
  subst ho
  exact pe_mono (pe_dc hc hN hi ok (fun s H C cl fp => pg_ex fun c => hg c s H C cl fp) (fun s H C cl fp => pts_ex fun c => ht c s H C cl fp) (fun s H C cl fp => pe_ex fun c => hk c s H C cl fp) (fun s H C cl fp => pe_ex fun c => he c s H C cl fp) hs) dc_to
theorem ps_setDc {i : Nat} {y : Str} {py : Pos} {wi : TI} {g : TG} {tt : TT} {tk tv : TE} (hc : X.calm = true) (hN : X.N.Nodup) (hy : X.N[i]? = some y) (hyl : X.env.scope.names.lookup y = some .local)
    (hsw : swapsWith (.DictComp kx vx [⟨tg, iter, ifs, 0⟩] scope pos) (some (.Name y py)) spos.line X.env = pure true) (hi : PI X tg iter wi) (ok : BlkOk X.N X.env.scope scope own)
    (hg : ∀ (s : Shared) (H : Hp) (C : Addr) (cl : List (Str × Addr)) (fp : List Addr), PG (X.blk s H scope (compEnvC scope cl C X.env) fp) tg g) (ht : ∀ (s : Shared) (H : Hp) (C : Addr) (cl : List (Str × Addr)) (fp : List Addr), PTs (X.blk s H scope (compEnvC scope cl C X.env) fp) ifs tt)
    (hk : ∀ (s : Shared) (H : Hp) (C : Addr) (cl : List (Str × Addr)) (fp : List Addr), PE (X.blk s H scope (compEnvC scope cl C X.env) fp) kx tk)
    (he : ∀ (s : Shared) (H : Hp) (C : Addr) (cl : List (Str × Addr)) (fp : List Addr), PE (X.blk s H scope (compEnvC scope cl C X.env) fp) vx tv) (hs : ∀ x, foldedSetIterable iter X.env x = pure x := by intro _; rfl) :
    PS X (.Assign [.Name y py] (.DictComp kx vx [⟨tg, iter, ifs, 0⟩] scope pos) spos) (tAsg (tDc wi g tt tk tv (own.map (·.2))) (gName i)) := by
  refine ⟨fun pins s σ H D I h => ?_⟩
  rw [exec_Assign_Name_used _ _ _ _ hsw]
  refine wpAny_bind (wpAny_standAt (wpAny_bind ?_))
  show wpAny _ X.A (do let _ ← comprehension (.DictComp kx vx [⟨tg, iter, ifs, 0⟩] scope pos) scope X.env (firstIterPos [⟨tg, iter, ifs, 0⟩] pos) newDict false (eval iter X.env) (some (assign (.Name y py) X.env))) _ _ s
  have h : tDc wi g tt tk tv (own.map (·.2)) σ H (fun x H1 => gName i x σ H1 D.nx) := h
  refine wpAny_bind (thn (dc_core (Qf := fun _ s' => SP X pins D .next s') hc hN I hi ok hg ht hk he hs h fun L C s' m H' I' q hn f => ?_) fun _ s' hq => wpAny_pure (wpAny_pure hq))
  show wpAny _ _ (assign (.Name y py) X.env (.ref L)) _ _ _
  refine wpAny_assign_Name (store_ok2 (v := V.ref L) I' hN hy (.inl hyl) rfl (fun s2 I2 ⟨a, sb, ha⟩ => ?_) (.inr hyl))
  obtain ⟨f0, f1, f2, f3, f4, f5⟩ := f
  have haC : C ≠ a := by
    rcases ha with z | z
    · rw [z]; exact f1
    · exact fun e => f4 y a z e.symm
  refine ⟨m, hn.sameBut sb haC, fun h3 sb3 => ?_⟩
  exact ⟨_, H', I2.turned (t' := s2.toks) (fun b o hb e => (sb3.2 b hb).trans e) f0 f1 f3 f4 f5, q⟩
theorem swD_true {gs : List Comprehension} {py : Pos} {y : Str} {l : Nat} {env : Env} (hk : env.scope.kind = .function) (hy : env.scope.names.lookup y = some .local) (hl : (py.line == pos.line) = true)
    (ha : (scope.names.any fun (n, k) => n == y && (k == .local || k == .cell)) = false) : swapsWith (.DictComp kx vx gs scope pos) (some (.Name y py)) l env = pure true := by
  have ky : env.kindOf y = some .local := hy
  have hb : env.blockKind = .function := by unfold Env.blockKind; rw [hk]; rfl
  unfold swapsWith
  simp only [hb, ky, ha, Expr.pos, hl]
  rfl
/-- name = {..} on one line, owned -/
theorem ms_setDc {i : Nat} {y : Str} {py : Pos} (hc : X.calm = true) (hN : X.N.Nodup) (hy : X.N[i]? = some y) (hyl : X.env.scope.names.lookup y = some .local) (hsw : swapsWith (.DictComp kx vx [⟨tg, iter, ifs, 0⟩] scope pos) (some (.Name y py)) spos.line X.env = pure true)
    (hi : PI X tg iter (mI X.K T c W rel fi)) (ok : BlkOk X.N X.env.scope scope own) (ho : own.map (·.2) = os)
    (hg : ∀ (c : Gh) (s : Shared) (H : Hp) (C : Addr) (cl : List (Str × Addr)) (fp : List Addr), PG (X.blk s H scope (compEnvC scope cl C X.env) fp) tg (mG X.K T c rel os g)) (ht : ∀ (c : Gh) (s : Shared) (H : Hp) (C : Addr) (cl : List (Str × Addr)) (fp : List Addr), PTs (X.blk s H scope (compEnvC scope cl C X.env) fp) ifs (mT X.K T c W0 t))
    (hk : ∀ (c : Gh) (s : Shared) (H : Hp) (C : Addr) (cl : List (Str × Addr)) (fp : List Addr), PE (X.blk s H scope (compEnvC scope cl C X.env) fp) kx (mE X.K T c W0 ek))
    (he : ∀ (c : Gh) (s : Shared) (H : Hp) (C : Addr) (cl : List (Str × Addr)) (fp : List Addr), PE (X.blk s H scope (compEnvC scope cl C X.env) fp) vx (mE X.K T c W0 ev)) (hs : ∀ x, foldedSetIterable iter X.env x = pure x := by intro _; rfl) :
    PS X (.Assign [.Name y py] (.DictComp kx vx [⟨tg, iter, ifs, 0⟩] scope pos) spos) (mS X.K T c W (newO (MM.bind fi (compO os g t ek ev)) i)) := by
  subst ho
  refine ps_mono (ps_setDc hc hN hy hyl hsw hi ok (fun s H C cl fp => pg_ex fun c => hg c s H C cl fp) (fun s H C cl fp => pts_ex fun c => ht c s H C cl fp) (fun s H C cl fp => pe_ex fun c => hk c s H C cl fp) (fun s H C cl fp => pe_ex fun c => he c s H C cl fp) hs) fun Dn σ H h => ?_
  exact dc_to σ H _ (newO_to Dn σ H h)
end
end Mi
set_option Elab.async false
set_option linter.all false
set_option maxRecDepth 100000
set_option maxHeartbeats 4000000
namespace Mi
open PySem L2
/-! ### for k in d -/
def keysD : List (D × D) → List D := List.map (·.1)
theorem dqkv_at {K : Fg} {G : Wd} : ∀ {kvs : List (Key × V)} {ds : List (D × D)}, DqKV K G kvs ds → ∀ {i : Nat} {k : Key} {v : V}, kvs[i]? = some (k, v) → ∃ d, ds[i]? = some (keyD k, d) ∧ Dq K G v d
  | _, _, .nil, i, k, v, e => by simp at e
  | _, _, .cons h t, 0, k, v, e => by simp at e; obtain ⟨rfl, rfl⟩ := e; exact ⟨_, rfl, h⟩
  | _, _, .cons h t, i + 1, k, v, e => by
    obtain ⟨d, h1, h2⟩ := dqkv_at t (i := i) (k := k) (v := v) (by simpa using e)
    exact ⟨d, by simpa using h1, h2⟩
theorem dq_kV {K : Fg} {G : Wd} (k : Key) : Dq K G (kV k) (keyD k) := by
  cases k with
  | inl i => exact .int i
  | inr s => exact .str s
theorem gives_keys {K : Fg} {G : Wd} {a : Addr} {o : Obj} {kvs : List (Key × V)} {ds : List (D × D)} (hq : G a = some (.frz o (.dK kvs))) (hr : DqKV K G kvs ds) : Gives (relD K) (Itk a o kvs) G (keysD ds) where
  go := fun i G1 H l1 l2 hi => ⟨l2 _ _ (l1.h _ _ hq), by rw [hr.length]; simpa [keysD] using hi⟩
  stop := fun G1 H l1 l2 => ⟨l2 _ _ (l1.h _ _ hq), by rw [hr.length]; simp [keysD]⟩
  yld := fun i G1 H x H' l1 l2 hi y => by
    obtain ⟨e, k, v, hk, rfl⟩ := y
    obtain ⟨d, e1, e2⟩ := dqkv_at hr hk
    refine ⟨keyD k, ?_, .inl ⟨e, dq_kV k⟩⟩
    unfold keysD
    rw [List.getElem?_map, e1]
    rfl
section
variable {X : Cx} {T : Tb} {c : Gh} {W : WX} {a b e tg iter value : Expr} {f f1 f2 f3 : MM D} {pos p : Pos}
def keysR : D → Res (List D)
  | .dict kvs => .ok (keysD kvs)
  | _ => .stuck
def keysE (f : MM D) : MM (List D) := MM.bind f fun x => lift (keysR x)
theorem mi_keys (he : PE X e (mE X.K T c W f)) : PI X tg e (mI X.K T c W (relD X.K) (keysE f)) := by
  refine ⟨fun pins s σ H R I h => (pi_keys (tg := tg) he).run pins s σ H R I ?_⟩
  obtain ⟨G, ρ, j, p⟩ := h
  refine pX_bind j p fun x v ρ1 G1 H1 l1 j1 r1 p1 => ?_
  cases r1 with
  | dic hq hr => obtain ⟨o, hq⟩ := hq; exact ⟨_, o, rfl, .inl ⟨_, j1.sub _ _ hq, p1 _ G1 H1 (Le.refl G1) j1 (gives_keys hq hr)⟩⟩
  | _ => exact p1.elim
/-! ### owned dicts read -/
def ownD (i : Nat) (g : List (D × D) → MM D) : MM D := fun ρ => match ρ[i]? with
  | some (some (.od kvs)) => g kvs ρ
  | _ => .stuck
/-- x[k] -/
def oixE (i : Nat) (f : MM D) : MM D := fun ρ => match ρ[i]? with
  | some (some (.od _)) => MM.bind f (fun k => ownD i fun kvs => match keyOf k, valAt kvs k with
    | some _, some d => MM.pure d
    | _, _ => stuck) ρ
  | _ => .stuck
def ogetE (i : Nat) (f f3 : MM D) : MM D := fun ρ => match ρ[i]? with
  | some (some (.od _)) => MM.bind f (fun k => MM.bind f3 fun z => ownD i fun kvs => match keyOf k with
    | some _ => MM.pure ((valAt kvs k).getD z)
    | _ => stuck) ρ
  | _ => .stuck
def oinE (i : Nat) (pos : Bool) (f : MM D) : MM D := MM.bind f fun k => ownD i fun kvs => match keyOf k with
  | some _ => MM.pure (.bool (if pos then hasKey k kvs else !hasKey k kvs))
  | _ => stuck
def olenE (i : Nat) : MM D := ownD i fun kvs => MM.pure (.int kvs.length)
theorem own_at {K : Fg} {G : Wd} {H : Hp} {σ : St} {ρ : MSt} {i : Nat} {kvs : List (D × D)} (j : J K T c G H σ ρ) (h : ρ[i]? = some (some (.od kvs))) : ∃ a es, σ[i]? = some (some (.ref a)) ∧ H a = some (.dK es) ∧ DqKV K G es kvs := by
  obtain ⟨v, e1, a, es, rfl, g, hh, r⟩ := j.sl i _ h
  exact ⟨a, es, e1, hh, r⟩
theorem me_oix {i : Nat} {x : Str} {xp : Pos} (hu : X.A.units + 1 < cLine) (hN : X.N[i]? = some x) (hv : Vis X.env.scope x) (he : PE X e (mE X.K T c W f)) (hs : NoSl e) (hd : (x == ("__debug__" : Str)) = false := by decide) (hcd : (x == ("__classdict__" : Str)) = false := by decide) :
    PE X (.Subscript (.Name x xp) e pos) (mE X.K T c W (oixE i f)) := by
  refine pe_mono (pe_dget hu (pe_var (i := i) (pos := xp) hN hv hd hcd) he hs) fun σ H Q ⟨G, ρ, j, p⟩ => ?_
  unfold oixE at p
  split at p
  · rename_i kvs0 hx
    obtain ⟨a, es, e1, hh, r⟩ := own_at j hx
    refine ⟨_, e1, ?_⟩
    refine pX_bind j p fun k y ρ1 G1 H1 l1 j1 r1 p1 => ?_
    unfold ownD at p1
    split at p1
    · rename_i kvs hy
      obtain ⟨a2, es2, e2, hh2, r2⟩ := own_at j1 hy
      rw [e1] at e2
      cases e2
      cases hk : keyOf k with
      | none => simp only [hk] at p1; exact p1.elim
      | some key =>
        cases hval : valAt kvs k with
        | none => simp only [hk, hval] at p1; exact p1.elim
        | some d =>
          simp only [hk, hval] at p1
          have ek := keyOf_keyD hk
          subst ek
          have ev := dq_key r1
          subst ev
          rcases dqkv_val (k := key) r2 with ⟨q1, q2⟩ | ⟨v, d', q1, q2, q3⟩
          · rw [q2] at hval; cases hval
          · rw [q2] at hval
            cases hval
            exact ⟨_, v, rfl, .inl ⟨_, key, .inl hh2, rfl, q1.symm⟩, p1.here j1 q3⟩
    · exact p1.elim
  · exact p.elim
theorem me_oget {i : Nat} {x : Str} {xp apos cpos : Pos} (hu : X.A.units + 1 < cLine) (hN : X.N[i]? = some x) (hv : Vis X.env.scope x) (he : PE X e (mE X.K T c W f)) (hf : PE X b (mE X.K T c W f3)) (m : M2 X (.Name x xp) "get" apos e b cpos) (hd : (x == ("__debug__" : Str)) = false := by decide) (hcd : (x == ("__classdict__" : Str)) = false := by decide) :
    PE X (.Call (.Attribute (.Name x xp) "get" apos) [e, b] [] cpos) (mE X.K T c W (ogetE i f f3)) := by
  refine pe_mono (pe_dget2 hu (pe_var (i := i) (pos := xp) hN hv hd hcd) he hf m) fun σ H Q ⟨G, ρ, j, p⟩ => ?_
  unfold ogetE at p
  split at p
  · rename_i kvs0 hx
    obtain ⟨a, es, e1, hh, r⟩ := own_at j hx
    refine ⟨_, e1, _, rfl, .inl ⟨_, .inl hh⟩, ?_⟩
    refine pX_bind j p fun k y ρ1 G1 H1 l1 j1 r1 p1 => ?_
    refine pX_bind j1 p1 fun z w ρ2 G2 H2 l2 j2 r2 p2 => ?_
    unfold ownD at p2
    split at p2
    · rename_i kvs hy
      obtain ⟨a2, es2, e2, hh2, r3⟩ := own_at j2 hy
      rw [e1] at e2
      cases e2
      cases hk : keyOf k with
      | none => simp only [hk] at p2; exact p2.elim
      | some key =>
        simp only [hk] at p2
        have ek := keyOf_keyD hk
        subst ek
        have ev := dq_key r1
        subst ev
        refine ⟨_, .inl ⟨_, key, .inl hh2, rfl, rfl⟩, ?_⟩
        rcases dqkv_val (k := key) r3 with ⟨q1, q2⟩ | ⟨v, d', q1, q2, q3⟩
        · rw [q1]; rw [q2] at p2; exact p2.here j2 r2
        · rw [q1]; rw [q2] at p2; exact p2.here j2 q3
    · exact p2.elim
  · exact p.elim
theorem oin_to {i : Nat} {pb : Bool} (σ : St) (H : Hp) (Q : VK) (h : mE X.K T c W (oinE i pb f) σ H Q) : (mE X.K T c W f) σ H fun y H1 => tVar i σ H1 fun x H2 => ∃ a o, x = .ref a ∧ DGet H2 a y o ∧ Q (.bl (if pb then o.isSome else !o.isSome)) H2 := by
  obtain ⟨G, ρ, j, p⟩ := h
  refine pX_bind j p fun k y ρ1 G1 H1 l1 j1 r1 p1 => ?_
  unfold ownD at p1
  split at p1
  · rename_i kvs hy
    obtain ⟨a2, es2, e2, hh2, r3⟩ := own_at j1 hy
    cases hk : keyOf k with
    | none => simp only [hk] at p1; exact p1.elim
    | some key =>
      simp only [hk] at p1
      have ek := keyOf_keyD hk
      subst ek
      have ev := dq_key r1
      subst ev
      refine ⟨_, e2, _, _, rfl, .inl ⟨_, key, .inl hh2, rfl, rfl⟩, ?_⟩
      have hh : (valV es2 key).isSome = hasKey (keyD key) kvs := dqkv_has r3
      rw [hh]
      exact p1.here j1 (.bl _)
  · exact p1.elim
theorem me_oin {i : Nat} {x : Str} {xp : Pos} (hu : X.A.units + 1 < cLine) (hN : X.N[i]? = some x) (hv : Vis X.env.scope x) (he : PE X e (mE X.K T c W f)) (hd : (x == ("__debug__" : Str)) = false := by decide) (hcd : (x == ("__classdict__" : Str)) = false := by decide) :
    PE X (.Compare e [.In] [.Name x xp] pos) (mE X.K T c W (oinE i true f)) :=
  pe_mono (pe_cmp (pc_din hu he (pe_var (i := i) (pos := xp) hN hv hd hcd))) oin_to
theorem me_onotin {i : Nat} {x : Str} {xp : Pos} (hu : X.A.units + 1 < cLine) (hN : X.N[i]? = some x) (hv : Vis X.env.scope x) (he : PE X e (mE X.K T c W f)) (hd : (x == ("__debug__" : Str)) = false := by decide) (hcd : (x == ("__classdict__" : Str)) = false := by decide) :
    PE X (.Compare e [.NotIn] [.Name x xp] pos) (mE X.K T c W (oinE i false f)) :=
  pe_mono (pe_cmp (pc_dnotin hu he (pe_var (i := i) (pos := xp) hN hv hd hcd))) oin_to
end
/-! ### the dice: a list that a def may change -/
structure KeptO (T : Tb) (a : Addr) (G : Wd) (H : Hp) (G' : Wd) (H' : Hp) : Prop where
  g : Le G G'
  s : Lh G' H'
  n : ∀ b, G b = none → H b ≠ none → b ≠ a → G' b = none
  k : ∀ b o, H b = some o → b ≠ a → (∀ ps, o ≠ .tbl ps) → H' b = some o
  t : ∀ b ps, H b = some (.tbl ps) → ∃ ps', H' b = some (.tbl ps')
  tb : LamX.Tabs T H'
  nt : ∀ b ps, G' b ≠ some (.tbl ps)
  m : G'.m = G.m
def spO (K : Fg) (T : Tb) (f : List D → List D → Res (D × List D)) : Sp := fun vs H Q E => ∃ G a ws xs us ds, vs = .ref a :: us ∧ Lh G H ∧ (∀ b ps, G b ≠ some (.tbl ps)) ∧ LamX.Tabs T H ∧ ((∀ a ∈ G.m, ∃ o, H a = some o) ∧ a ∉ G.m) ∧ G a = none ∧ H a = some (.lst ws) ∧ DqAll K G ws xs ∧ DqAll K G us ds ∧ match f xs ds with
  | .ok (d, xs') => ∀ v ws' G' H', KeptO T a G H G' H' → G' a = none → H' a = some (.lst ws') → DqAll K G' ws' xs' → Dq K G' v d → Q v H'
  | _ => False
def startO (n : Nat) (xs : List D) (ds : List D) : MSt := some (.dc xs) :: (ds.map (fun d => some (S.d d)) ++ List.replicate (n - ds.length) none)
def diceOf (ρ : MSt) : Option (List D) := match ρ with
  | some (.dc xs) :: _ => some xs
  | _ => none
def endO : Out Fl → Res (D × List D)
  | .ok (.rt d) ρ => match diceOf ρ with
    | some xs => .ok (d, xs)
    | none => .stuck
  | .ok .nx ρ => match diceOf ρ with
    | some xs => .ok (.none, xs)
    | none => .stuck
  | _ => .stuck
def runO (n m : Nat) (b : MM Fl) : List D → List D → Res (D × List D) := fun xs ds => if ds.length + 1 = m then endO (b (startO n xs ds)) else .stuck
theorem J.entryO {K : Fg} {T : Tb} {G : Wd} {H : Hp} {a : Addr} {ws us : List V} {xs ds : List D} {N : List Str} (l : Lh G H) (nt : ∀ b ps, G b ≠ some (.tbl ps)) (tb : LamX.Tabs T H) (hm : (∀ a ∈ G.m, ∃ o, H a = some o) ∧ a ∉ G.m) (g : G a = none) (hh : H a = some (.lst ws)) (dx : DqAll K G ws xs) (dq : DqAll K G us ds) (hn : us.length + 1 ≤ N.length) : J K T ⟨H, G, [a], a, false⟩ G H (L2.start N (.ref a :: us)) (startO N.length xs ds) := by
  have hl := dq.length
  have get : ∀ (i : Nat) s, (startO N.length xs ds)[i]? = some (some s) → (i = 0 ∧ s = .dc xs) ∨ ∃ d v, s = .d d ∧ (L2.start N (.ref a :: us))[i]? = some (some v) ∧ Dq K G v d := fun i s e => by
    unfold startO at e
    cases i with
    | zero => simp at e; exact .inl ⟨rfl, e.symm⟩
    | succ i =>
      rw [List.getElem?_cons_succ] at e
      by_cases hi : i < ds.length
      · rw [List.getElem?_append_left (by simpa using hi), List.getElem?_map] at e
        cases q : ds[i]? with
        | none => rw [q] at e; cases e
        | some d =>
          rw [q] at e
          cases e
          obtain ⟨v, h1, h2⟩ := dq.getD q
          refine .inr ⟨d, v, rfl, ?_, h2⟩
          unfold L2.start
          rw [List.map_cons, List.cons_append, List.getElem?_cons_succ, List.getElem?_append_left (by simpa [hl] using hi), List.getElem?_map, h1]
          rfl
      · rw [List.getElem?_append_right (by simpa using hi), List.getElem?_replicate] at e
        split at e <;> cases e
  have at0 : (L2.start N (.ref a :: us))[0]? = some (some (.ref a)) := by unfold L2.start; simp
  refine ⟨l, Le.refl G, fun _ h _ _ => h, fun _ _ e _ _ => e, fun _ ps e => ⟨ps, e⟩, ?_, fun i s e ns => ?_, fun i s b e o e2 => ?_, fun i k s t b b' e1 e2 o1 o2 f1 f2 n => ?_, tb, nt, fun b μ e => ?_, ⟨hm.1, fun b m n => ?_, fun b m => .inl m, fun _ => rfl⟩⟩
  · unfold startO L2.start
    simp only [List.length_append, List.length_map, List.length_replicate, List.length_cons]
    omega
  · rcases get i s e with ⟨rfl, rfl⟩ | ⟨d, v, rfl, h1, h2⟩
    · exact ⟨.ref a, at0, rfl, a, ws, rfl, g, hh, dx⟩
    · exact ⟨v, h1, h2⟩
  · rcases get i s e with ⟨rfl, rfl⟩ | ⟨d, v, rfl, h1, h2⟩
    · rw [at0] at e2; cases e2; exact .inr (by simp)
    · cases o
  · rcases get i s e1 with ⟨rfl, rfl⟩ | ⟨d, v, rfl, h1, h2⟩
    · rcases get k t e2 with ⟨rfl, rfl⟩ | ⟨d, v, rfl, h1, h2⟩
      · exact absurd rfl n
      · cases o2
    · cases o1
  · rcases get _ _ e with ⟨_, z⟩ | ⟨d, v, z, _⟩ <;> cases z
  · obtain ⟨i, s, e1, e2, e3⟩ := mem_owns.mp n
    rcases get i s e1 with ⟨rfl, rfl⟩ | ⟨d, v, rfl, h1, h2⟩
    · rw [at0] at e3; cases e3; exact hm.2 m
    · cases e2
theorem J.keptO {K : Fg} {T : Tb} {a : Addr} {G G' : Wd} {H H' : Hp} {σ : St} {ρ : MSt} (j : J K T ⟨H, G, [a], a, false⟩ G' H' σ ρ) : KeptO T a G H G' H' :=
  ⟨j.g0, j.sub, fun b g h n => j.gn b g h (by simpa using n), fun b o e n t => j.fr b o e (by simpa using n) t, j.ft, j.tb, j.nt, j.mj.nm rfl⟩
theorem diceOf_at {ρ : MSt} {xs : List D} (h : diceOf ρ = some xs) : ρ[0]? = some (some (.dc xs)) := by
  unfold diceOf at h
  split at h
  · cases h; rfl
  · cases h
theorem J.dice {K : Fg} {T : Tb} {c : Gh} {G : Wd} {H : Hp} {σ : St} {ρ : MSt} {i : Nat} {xs : List D} (j : J K T c G H σ ρ) (h : ρ[i]? = some (some (.dc xs))) : σ[i]? = some (some (.ref c.da)) ∧ ∃ ws, G c.da = none ∧ H c.da = some (.lst ws) ∧ DqAll K G ws xs := by
  obtain ⟨v, e1, rfl, a, ws, e2, g, hh, r⟩ := j.sl i _ h
  cases e2
  exact ⟨e1, ws, g, hh, r⟩
section
variable {P : Program} {w : World} {K : Fg} {mg : Str → Option Value} {base : Heap} {T : Tb}
theorem fn_defO {x qual : Str} {st : Stmt} {f : Addr} {fd : FuncData} {N ps : List Str} {k : Nat} {b : MM Fl} (F : Fun K x qual st f fd) (S : FnScope N ps (defScope st))
    (hb : ∀ (cdv : Value), cdv = fd.code → ∀ (A : Around) (outer : List Env) (s : Shared) (H : Hp) (E : XK) (c : Gh), Room k (A.deeper (PyProof.Rows.envOfC qual (defScope st) s.heap.objs.size f cdv)) →
      PSs (cxX P w K mg base N qual (defScope st) f cdv A outer s H E) (defBody st) (mS K T c (fun cls d _ H => E cls d H) b)) :
    FnOk P w K mg base (L2N.CX P w) (k + 1) f fd ps (spO K T (runO N.length ps.length b)) := by
  have hpl : ps.length ≤ N.length := by have := congrArg List.length S.pre; rw [List.length_take] at this; omega
  refine okN F S (fun vs H Q E h => ?_) fun cdv hcd A outer s H vs Q E hr h => ?_
  · obtain ⟨G, a, ws, xs, us, ds, rfl, _, _, _, _, _, _, _, dq, p⟩ := h
    unfold runO at p
    by_cases z : ds.length + 1 = ps.length
    · rw [List.length_cons, dq.length, z]
    · rw [if_neg z] at p; exact p.elim
  · obtain ⟨G, a, ws, xs, us, ds, e, l, nt, tb, hm, g, hh, dx, dq, p⟩ := h
    refine ⟨_, hb cdv hcd A outer s H E ⟨H, G, [a], a, false⟩ hr, ?_⟩
    unfold runO at p
    by_cases z : ds.length + 1 = ps.length
    · rw [if_pos z] at p
      rw [e]
      refine ⟨G, startO N.length xs ds, J.entryO l nt tb hm g hh dx dq (by rw [dq.length, z]; exact hpl), ?_⟩
      cases e : b (startO N.length xs ds) with
      | ok fl ρ' =>
        rw [e] at p
        cases fl with
        | nx =>
          intro σ' G' H' l' j'
          unfold endO at p
          cases q : diceOf ρ' with
          | none => simp only [q] at p
          | some ys =>
            simp only [q] at p
            obtain ⟨_, ws', g', hh', r'⟩ := j'.dice (diceOf_at q)
            exact p .non ws' G' H' j'.keptO g' hh' r' .non
        | rt d =>
          intro v σ' G' H' l' j' dv
          unfold endO at p
          cases q : diceOf ρ' with
          | none => simp only [q] at p
          | some ys =>
            simp only [q] at p
            obtain ⟨_, ws', g', hh', r'⟩ := j'.dice (diceOf_at q)
            exact p v ws' G' H' j'.keptO g' hh' r' dv
        | bk => exact p.elim
        | ct => exact p.elim
      | exn y ρ' => rw [e] at p; exact p.elim
      | stuck => rw [e] at p; exact p.elim
    · rw [if_neg z] at p; exact p.elim
end
theorem J.afterO {K : Fg} {T : Tb} {c : Gh} {G G' : Wd} {H H' : Hp} {σ : St} {ρ : MSt} {i : Nat} {xs xs' : List D} {ws' : List V} (j : J K T c G H σ ρ) (hi : ρ[i]? = some (some (.dc xs))) (q : KeptO T c.da G H G' H') (g' : G' c.da = none) (hh' : H' c.da = some (.lst ws')) (r' : DqAll K G' ws' xs') : J K T c G' H' σ (ρ.set i (some (.dc xs'))) := by
  obtain ⟨e0, ws, g, hh, r⟩ := j.dice hi
  have hl : i < ρ.length := (List.getElem?_eq_some_iff.mp hi).1
  have at_ : ∀ {k : Nat} {s : S}, (ρ.set i (some (.dc xs')))[k]? = some (some s) → (k = i ∧ s = .dc xs') ∨ (k ≠ i ∧ ρ[k]? = some (some s)) := fun {k s} e => by
    by_cases z : k = i
    · subst z; rw [List.getElem?_set_self hl] at e; cases e; exact .inl ⟨rfl, rfl⟩
    · rw [List.getElem?_set_ne (Ne.symm z)] at e; exact .inr ⟨z, e⟩
  have old : ∀ {k : Nat} {s : S}, (ρ.set i (some (.dc xs')))[k]? = some (some s) → s.own = true → ∃ t, ρ[k]? = some (some t) ∧ t.own = true := fun {k s} e o => by
    rcases at_ e with ⟨rfl, rfl⟩ | ⟨z, e⟩
    · exact ⟨_, hi, rfl⟩
    · exact ⟨s, e, o⟩
  have da0 : c.H0 c.da = none ∨ c.da ∈ c.M := j.ow i _ _ hi rfl e0
  refine ⟨q.s, j.g0.trans q.g, fun b g0 h0 m => ?_, fun b o e m t => q.k b o (j.fr b o e m t) (fun z => ?_) t, fun b ps e => ?_, by simp [j.len], fun k s e ns => ?_, fun k s b e o e2 => ?_, fun k l s t b d e1 e2 o1 o2 f1 f2 n => ?_, q.tb, q.nt, fun b μ e => ?_, ⟨fun b m => ?_, fun b m n => ?_, fun b m => j.mj.gr b (by rw [← q.m]; exact m), fun h => q.m.trans (j.mj.nm h)⟩⟩
  · by_cases z : b = c.da
    · rw [z]; exact g'
    · exact q.n b (j.gn b g0 h0 m) (fun y => (j.H0none y).elim h0 m) z
  · rw [z] at e m
    rcases da0 with y | y
    · rw [e] at y; cases y
    · exact m y
  · obtain ⟨ps', h⟩ := j.ft b ps e
    exact q.t b ps' h
  · rcases at_ e with ⟨rfl, rfl⟩ | ⟨z, e⟩
    · exact ⟨_, e0, rfl, c.da, ws', rfl, g', hh', r'⟩
    · obtain ⟨v, e1, rs⟩ := j.sl k s e ns
      refine ⟨v, e1, ?_⟩
      have ne : ∀ {b : Addr}, s.own = true → v = .ref b → b ≠ c.da := fun {b} o ev => by
        subst ev
        exact j.ap k i s _ b c.da e hi o rfl e1 e0 z
      cases s with
      | d x => exact Dq.le rs q.g
      | ol ys =>
        obtain ⟨b, vs, e2, g2, hh2, r2⟩ := rs
        exact ⟨b, vs, e2, q.n b g2 (by rw [hh2]; exact fun z => by cases z) (ne rfl e2), q.k b _ hh2 (ne rfl e2) (fun _ z => by cases z), r2.le q.g⟩
      | od ys =>
        obtain ⟨b, vs, e2, g2, hh2, r2⟩ := rs
        exact ⟨b, vs, e2, q.n b g2 (by rw [hh2]; exact fun z => by cases z) (ne rfl e2), q.k b _ hh2 (ne rfl e2) (fun _ z => by cases z), r2.le q.g⟩
      | dc ys =>
        obtain ⟨ev, _⟩ := rs
        exact absurd rfl (ne rfl ev)
      | sto b μ => cases ns
  · obtain ⟨t, h1, h2⟩ := old e o
    exact j.ow k t b h1 h2 e2
  · obtain ⟨t1, h1, h2⟩ := old e1 o1
    obtain ⟨t2, h3, h4⟩ := old e2 o2
    exact j.ap k l t1 t2 b d h1 h3 h2 h4 f1 f2 n
  · rcases at_ e with ⟨_, z⟩ | ⟨z, e⟩
    · cases z
    · obtain ⟨s1, s3⟩ := j.st b μ e
      have nda : ∀ d, d ∈ G.m → d ≠ c.da := fun d m z => j.mj.ow d m (mem_owns.mpr ⟨i, _, hi, rfl, by rw [z]; exact e0⟩)
      refine ⟨s1.keep q.g q.m (fun d g m h => q.n d g h fun z => ?_) fun d o e z => q.k d o e (fun y => ?_) fun ps y => ?_, fun hb => ⟨(s3 hb).1, fun a m => (s3 hb).2 a (by rw [← q.m]; exact m)⟩⟩
      · rcases m with m | ⟨x, m⟩
        · exact nda d m z
        · rw [z, hh] at m; cases m
      · rcases z with z | ⟨x, z⟩
        · exact nda d z y
        · rw [y, hh, z] at e; cases e
      · rcases z with z | ⟨x, z⟩
        · obtain ⟨_, o', h1, h2, _⟩ := s1.there z
          rw [e] at h1; cases h1; exact h2 ps y
        · rw [z] at y; cases y
  · have m : b ∈ G.m := by rw [← q.m]; exact m
    obtain ⟨o, h⟩ := j.mj.hr b m
    have nb : b ≠ c.da := fun z => j.mj.ow b m (mem_owns.mpr ⟨i, _, hi, rfl, by rw [z]; exact e0⟩)
    cases o with
    | tbl ps => obtain ⟨ps', e⟩ := q.t b ps h; exact ⟨_, e⟩
    | _ => exact ⟨_, q.k b _ h nb (fun _ z => by cases z)⟩
  · obtain ⟨k, s, e1, e2, e3⟩ := mem_owns.mp n
    obtain ⟨t, h1, h2⟩ := old e1 e2
    exact j.mj.ow b (by rw [← q.m]; exact m) (mem_owns.mpr ⟨k, t, h1, h2, e3⟩)
section
variable {X : Cx} {T : Tb} {c : Gh} {W : WX} {a b e value : Expr} {f f1 f2 : MM D} {pos p : Pos}
/-- f(dice, e, ..) -/
def callO (fm : List D → List D → Res (D × List D)) (i : Nat) (g : MM (List D)) : MM D := fun ρ => match ρ[i]? with
  | some (some (.dc _)) => MM.bind g (fun ds ρ1 => match ρ1[i]? with
    | some (some (.dc xs)) => match fm xs ds with
      | .ok (d, xs') => .ok d (ρ1.set i (some (.dc xs')))
      | _ => .stuck
    | _ => .stuck) ρ
  | _ => .stuck
theorem me_callO {x y : Str} {yp : Pos} {es : List Expr} {g : MM (List D)} {k i : Nat} {fa : Addr} {fd : FuncData} {ps : List Str} {fm : List D → List D → Res (D × List D)} (F : FnOk X.prog X.w X.K X.mg X.base (L2N.CX X.prog X.w) k fa fd ps (spO X.K T fm)) (hr : Room k X.A) (hg : Gl X x) (hm : X.mg x = some (.ref fa)) (hk : PySem.W.keepIn X.K (.ref fa) = true)
    (hb : Binds X.K fd ps []) (tk : L2N.Takes X W) (hN : X.N[i]? = some y) (hv : Vis X.env.scope y) (ha : PA X es (mA X.K T c W g)) (hdb : (x == ("__debug__" : Str)) = false := by decide) (hd : (y == ("__debug__" : Str)) = false := by decide) (hcd : (y == ("__classdict__" : Str)) = false := by decide) (he : starEach (.Name y yp :: es) X.env = (false, eval (.Name y yp) X.env) :: starEach es X.env := by rfl) (hpl : (backTo pos (starEach es X.env)).any (·.1) = false := by rfl) :
    PE X (.Call (.Name x p) (.Name y yp :: es) [] pos) (mE X.K T c W (callO fm i g)) := by
  refine pe_mono (pe_callS F hr hg hm hk hb (fun σ => L2N.passAt tk σ) (pa_cons (pe_var (i := i) (pos := yp) hN hv hd hcd) ha he) hdb he hpl) fun σ H Q ⟨G, ρ, j, p⟩ => ?_
  unfold callO at p
  split at p
  · rename_i xs0 hx
    obtain ⟨e1, ws0, _⟩ := j.dice hx
    refine ⟨_, e1, ?_⟩
    refine pX_bind j p fun ds us ρ1 G1 H1 l1 j1 r1 p1 => ?_
    split at p1
    · rename_i xs hy
      obtain ⟨e1', ws, g2, hh, r⟩ := j1.dice hy
      refine ⟨G1, c.da, ws, xs, us, ds, rfl, j1.sub, j1.nt, j1.tb, ⟨j1.mj.hr, fun m => j1.mj.ow _ m (mem_owns.mpr ⟨i, _, hy, rfl, e1'⟩)⟩, g2, hh, r, r1, ?_⟩
      split at p1
      · rename_i d xs' hf
        exact fun v ws' G' H' q g' hh' r' dv => p1 v G' H' q.g (j1.afterO hy q g' hh' r') dv
      · exact p1.elim
    · exact p1.elim
  · exact p.elim
/-- dice[k] = e -/
def dsetS (i k : Nat) (f : MM D) : MM Fl := MM.bind f fun d ρ => match ρ[i]? with
  | some (some (.dc xs)) => if k < xs.length then .ok .nx (ρ.set i (some (.dc (xs.set k d)))) else .stuck
  | _ => .stuck
theorem ms_dset {i k : Nat} {x : Str} {xp ip pos' : Pos} {j1} (hN : X.N[i]? = some x) (hv : Vis X.env.scope x) (he : PE X value (mE X.K T c W f)) (hd : (x == ("__debug__" : Str)) = false := by decide) (hcd : (x == ("__classdict__" : Str)) = false := by decide)
    (hs : swapsWithSole [.Subscript (.Name x xp) (.Constant (.int k) j1 ip) pos'] value pos.line X.env = pure false := by rfl) (hw : swappedStores [.Subscript (.Name x xp) (.Constant (.int k) j1 ip) pos'] value X.env = pure none := by rfl)
    (h1 : (assignEach [.Subscript (.Name x xp) (.Constant (.int k) j1 ip) pos'] X.env).map (·.2) = [assign (.Subscript (.Name x xp) (.Constant (.int k) j1 ip) pos') X.env] := by rfl)
    (ha : ∀ v, assign (.Subscript (.Name x xp) (.Constant (.int k) j1 ip) pos') X.env v = (do
      let ov ← holding [v] (eval (.Name x xp) X.env)
      let iv ← holding [v, ov] (eval (.Constant (.int k) j1 ip) X.env)
      standAt pos'
      holding [v, ov, iv] (setItem ov iv v)
      release [v, ov, iv] []) := by intro _; rfl) :
    PS X (.Assign [.Subscript (.Name x xp) (.Constant (.int k) j1 ip) pos'] value pos) (mS X.K T c W (dsetS i k f)) := by
  refine ps_mono (ps_asg he (pg_sub (pe_var (i := i) (pos := xp) hN hv hd hcd) (pe_int (i := (k : Int))) set_list ha) hs hw h1) fun Dn σ H ⟨G, ρ, j, p⟩ => ?_
  refine pS_bind j p fun d v ρ1 G1 H1 l1 j1 r1 p1 => ?_
  split at p1
  · rename_i xs hx
    obtain ⟨e1, ws, g, hh, r⟩ := j1.dice hx
    by_cases hk : k < xs.length
    · rw [if_pos hk] at p1
      refine ⟨_, e1, ?_⟩
      refine ⟨c.da, ws, k, k, rfl, rfl, hh, ?_, ?_⟩
      · unfold ixN
        rw [r.length, if_pos (by omega), if_pos (by omega)]
        simp
      · exact p1 σ G1 _ (Le.refl G1) (j1.upOwn hx rfl e1 rfl ⟨rfl, c.da, _, rfl, g, upd_same, r.set r1 k⟩)
    · rw [if_neg hk] at p1; exact p1.elim
  · exact p1.elim
end
end Mi
set_option Elab.async false
set_option linter.all false
set_option maxRecDepth 100000
set_option maxHeartbeats 4000000
namespace Mi
open PySem L2
theorem pss_ex {X : Cx} {e : List Stmt} {t : Gh → TS} (h : ∀ c, PSs X e (t c)) : PSs X e (fun Dn σ H => ∃ c, t c Dn σ H) := ⟨fun pins s σ H Dn I ⟨c, q⟩ => (h c).run pins s σ H Dn I q⟩
/-! ### a cell of the script: some int -/
abbrev rLenQ (K : Fg) : List V → Hp → VK → Prop := fun xs H Q => ∃ p ys, xs = [V.ref p] ∧ (SqL K H p ys ∨ SqT K H p ys) ∧ Q (.int ys.length) H
abbrev tLen0 (K : Fg) : TE := tCB (rLenQ K) (tCons (tVar 0) tNil)
def spCell (K : Fg) : Sp := fun vs H Q _ => ∃ (a : Addr) (k : Nat) (ns : List Int), vs = [.ref a, .int k] ∧ SqL K H a (ns.map V.int) ∧ k < 100 ∧ ns.length < 100 ∧ ∀ z H', (∀ b o, H b = some o → H' b = some o) → Q (.int z) H'
def tCell (K : Fg) : TS := tSeq (tIfS (tTest (tOp (rEqD K) (tVar 0) (tLst tNil))) (tRet (tOp (rI CMul fun i j => .int (i * j)) (tVar 1) (tC (.int 7919)))) tNext)
  (tRet (tOp (rI0 fun i j => .int (i + j)) (tOp (rIxL K) (tVar 0) (tOp (rI (fun _ j => 0 < j) fun i j => .int (i % j)) (tVar 1) (tLen0 K)))
    (tOp (rI CMul fun i j => .int (i * j)) (tOp (rI CDiv fun i j => .int (i / j)) (tVar 1) (tLen0 K)) (tC (.int 104729)))))
theorem dp_ints {K : Fg} {H : Hp} : ∀ ns : List Int, DpAll K H (ns.map V.int) (ns.map PyData.int)
  | [] => .nil
  | n :: ns => .cons (.int n) (dp_ints ns)
theorem lay_ints : ∀ ns : List Int, PyData.canLayAll0 (ns.map PyData.int) = true
  | [] => by simp [PyData.canLayAll0]
  | n :: ns => by
    rw [List.map_cons, PyData.canLayAll0, lay_ints ns]
    simp [PyData.canLay0]
theorem depth_ints : ∀ ns : List Int, PyData.depthAll (ns.map PyData.int) = 0
  | [] => by simp [PyData.depthAll]
  | n :: ns => by
    rw [List.map_cons, PyData.depthAll, depth_ints ns]
    simp [PyData.depth]
theorem shaped_ints (ns : List Int) : SeqAt.shaped (.list (ns.map PyData.int)) = true := by
  unfold SeqAt.shaped
  rw [PyData.canLay0, lay_ints, PyData.depth, depth_ints]
  rfl
theorem cell_reads {K : Fg} {vs : List V} {H : Hp} {Q : VK} {E : XK} (h : spCell K vs H Q E) : tCell K { nx := fun _ H' => Q .non H', rt := Q } (L2.start ["_law_script", "_law_k"] vs) H := by
  obtain ⟨a, k, ns, rfl, hS, hk, hn, q⟩ := h
  refine ⟨_, rfl, Nat.zero_le _, fun p hp => ?_⟩
  have up : ∀ b o, H b = some o → upd H p (.lst []) b = some o := fun b o e => by rw [upd_ne (ne_of_none e hp)]; exact e
  have hS2 : SqL K (upd H p (.lst [])) a (ns.map V.int) := sqL_sub hS (sub_of up)
  refine ⟨.list (ns.map PyData.int), .list [], .lst hS2 (dp_ints ns), .lst (.inl (.inl upd_same)) .nil, shaped_ints ns, rfl, _, rfl, ?_⟩
  by_cases z : ns = []
  · subst z
    dsimp only
    rw [if_pos (show PyData.eqv (.list (List.map PyData.int [])) (.list []) = true by simp [PyData.eqv, PyData.eqvAll])]
    exact ⟨_, rfl, _, _, rfl, rfl, .inr (by decide), q _ _ up⟩
  · have hz : PyData.eqv (.list (ns.map PyData.int)) (.list []) = false := by
      cases ns with
      | nil => exact absurd rfl z
      | cons n ns => simp [PyData.eqv, PyData.eqvAll]
    dsimp only
    rw [hz, if_neg Bool.false_ne_true]
    have hpos : 0 < ns.length := List.length_pos_iff.mpr z
    refine ⟨_, rfl, _, rfl, _, rfl, _, _, rfl, .inl hS2, ?_⟩
    refine ⟨_, _, rfl, rfl, by simpa using hpos, ?_⟩
    have hi : k % ns.length < ns.length := Nat.mod_lt _ hpos
    have e1 : ((k : Int) % ((ns.map V.int).length : Int)) = ((k % ns.length : Nat) : Int) := by
      rw [List.length_map]; omega
    dsimp only
    rw [e1]
    refine ⟨a, _, _, _, rfl, rfl, hS2, atI_nat (v := V.int ns[k % ns.length]) (by simp [hi]), ?_⟩
    refine ⟨_, rfl, _, rfl, _, _, rfl, .inl hS2, ?_⟩
    refine ⟨_, _, rfl, rfl, ?_, ?_⟩
    · refine ⟨by simpa using hpos, ?_⟩
      rw [List.length_map]
      omega
    · refine ⟨_, _, rfl, rfl, .inr (by decide), ?_⟩
      exact ⟨_, _, rfl, rfl, q _ _ up⟩

/-! ### the rounds: a list of new dice -/
def DiceAt (H : Hp) (v : V) : Prop := ∃ b x y, v = .ref b ∧ H b = some (.lst [.int x, .int y])
def spRounds (K : Fg) : Sp := fun vs H Q _ => ∃ (a : Addr) (n : Nat) (ns : List Int), vs = [.ref a, .int n] ∧ SqL K H a (ns.map V.int) ∧ n < 100 ∧ ns.length < 100 ∧ ∀ al rs H', (∀ b o, H b = some o → H' b = some o) → H' al = some (.lst rs) → (∀ r ∈ rs, DiceAt H' r) → Q (.ref al) H'
abbrev rMax2 : List V → Hp → VK → Prop := fun xs H Q => ∃ i j, xs = [.int i, .int j] ∧ Q (.int (if j > i then j else i)) H
abbrev rMin2 : List V → Hp → VK → Prop := fun xs H Q => ∃ i j, xs = [.int i, .int j] ∧ Q (.int (if j < i then j else i)) H
def tRounds (K : Fg) (E : St → XK) : TS := tRet (tLc (iRng1 (tCons (tCB rMax2 (tCons (tC (.int 1)) (tCons (tCB rMin2 (tCons (tVar 1) (tCons (tLen0 K) tNil))) tNil))) tNil)) (gName 2) tYes
  (tLst (tCons (tCallS (spCell K) E (tCons (tVar 0) (tCons (tVar 2) tNil))) (tCons (tC (.int 0)) tNil))) [2])
theorem DiceAt.ext {H H' : Hp} {v : V} (h : DiceAt H v) (e : ∀ b o, H b = some o → H' b = some o) : DiceAt H' v := by
  obtain ⟨b, x, y, h1, h2⟩ := h
  exact ⟨b, x, y, h1, e _ _ h2⟩
theorem rounds_reads {K : Fg} {vs : List V} {H : Hp} {Q : VK} {E : XK} {E' : St → XK} (h : spRounds K vs H Q E) : tRounds K E' { nx := fun _ H' => Q .non H', rt := Q } (L2.start ["_law_script", "_law_high", "_law_k"] vs) H := by
  obtain ⟨a, n, ns, rfl, hS, hn, hl, q⟩ := h
  refine ⟨_, rfl, _, rfl, _, _, rfl, .inl hS, ?_⟩
  refine ⟨_, _, rfl, _, _, rfl, ?_⟩
  dsimp only
  generalize hm : (if (if ((ns.map V.int).length : Int) < (n : Int) then ((ns.map V.int).length : Int) else (n : Int)) > 1 then (if ((ns.map V.int).length : Int) < (n : Int) then ((ns.map V.int).length : Int) else (n : Int)) else 1) = m
  have hm1 : 0 ≤ m ∧ m < 100 := by
    rw [List.length_map] at hm
    split at hm <;> split at hm <;> omega
  refine ⟨m, rfl, by omega, by omega, fun D hD => ?_⟩
  have up0 : ∀ b o, H b = some o → upd H D (.lst []) b = some o := fun b o e => by rw [upd_ne (ne_of_none e hD)]; exact e
  refine lc_range (fun i H' => (∀ b o, H b = some o → H' b = some o) ∧ ∃ rs, H' D = some (.lst rs) ∧ rs.length = i ∧ (∀ r ∈ rs, DiceAt H' r) ∧ ∀ r ∈ rs, r ≠ .ref D) ⟨up0, [], upd_same, rfl, by simp, by simp⟩ (fun i H' hi ⟨e, rs, h1, h2, h3, h4⟩ => ?_) fun H' ⟨e, rs, h1, h2, h3, h4⟩ => q D rs H' e h1 h3
  have hw : wipe ((wipe (L2.start ["_law_script", "_law_high", "_law_k"] [V.ref a, V.int (n : Int)]) [2]).set 2 (some (.int ((0 : Int) + (i : Int))))) [2] = wipe (L2.start ["_law_script", "_law_high", "_law_k"] [V.ref a, V.int (n : Int)]) [2] := rfl
  refine ⟨hw, ?_⟩
  refine ⟨_, rfl, _, rfl, ?_⟩
  refine ⟨a, i, ns, by simp, sqL_sub hS (sub_of e), by omega, hl, fun z H2 e2 => ?_⟩
  refine ⟨(by decide : (2 : Nat) ≤ sizeLine), fun p hp => ?_⟩
  have up : ∀ b o, H2 b = some o → upd H2 p (.lst [.int z, .int 0]) b = some o := fun b o e => by rw [upd_ne (ne_of_none e hp)]; exact e
  refine ⟨rs, up _ _ (e2 _ _ h1), Nat.lt_trans (show rs.length < 100 by omega) (by decide), ?_⟩
  have nD : p ≠ D := fun z => by rw [z, e2 _ _ h1] at hp; cases hp
  have up2 : ∀ b o, b ≠ D → H2 b = some o → upd (upd H2 p (.lst [.int z, .int 0])) D (.lst (rs ++ [V.ref p])) b = some o := fun b o nb e => by rw [upd_ne nb]; exact up _ _ e
  refine ⟨fun b o eb => up2 b o (fun z => by rw [z, hD] at eb; cases eb) (e2 _ _ (e _ _ eb)), _, upd_same, by simp [h2], fun r hr => ?_, fun r hr => ?_⟩
  · rcases List.mem_append.mp hr with hr | hr
    · obtain ⟨b, x, y, rfl, hb⟩ := h3 r hr
      exact ⟨b, x, y, rfl, up2 _ _ (fun z => h4 _ hr (by rw [z])) (e2 _ _ hb)⟩
    · obtain rfl : r = .ref p := by simpa using hr
      exact ⟨p, z, 0, rfl, by rw [upd_ne nD, upd_same]⟩
  · rcases List.mem_append.mp hr with hr | hr
    · exact h4 r hr
    · obtain rfl : r = .ref p := by simpa using hr
      exact fun z => nD (V.ref.inj z)
/-! ### the law: all rounds -/
def spLaw (K : Fg) (T : Tb) : Sp := fun vs H Q _ => ∃ (a : Addr) (ns : List Int), vs = [.ref a] ∧ SqL K H a (ns.map V.int) ∧ ns.length < 100 ∧ LamX.Tabs T H ∧ ∀ H', Q (.bl true) H'
/-- one round: from any dice, to the end, the dice dice -/
def roundSt (n : Nat) (x y : Int) : MSt := none :: some (.dc [.int x, .int y]) :: (List.replicate (n - 2) none ++ [some (.sto true [])])
def isDc : Option (Option S) → Bool
  | some (some (.dc [.int _, .int _])) => true
  | _ => false
def RoundOk (n : Nat) (b : MM Fl) : Prop := ∀ x y : Int, ∃ ρ', (b (roundSt n x y) = .ok .nx ρ' ∨ b (roundSt n x y) = .ok .ct ρ') ∧ isDc ρ'[1]? = true ∧ ρ'.length = n + 1
def tLaw (K : Fg) (T : Tb) (W : WX) (E : St → XK) (r : Int) (b : MM Fl) : TS := tSeq (tFor (fun σ H R => tCallS (spRounds K) E (tCons (tVar 0) (tCons (tC (.int r)) tNil)) σ H fun x H1 => (∃ a, x = .ref a ∧ (∃ xs, SqL K H1 a xs) ∧ R (Itl K a) H1) ∨ (∃ a, x = .ref a ∧ (∃ xs, SqT K H1 a xs) ∧ R (Itt K a) H1) ∨ ∃ s, x = .str s ∧ R (Its s) H1) (gName 1) (fun Dn σ H => ∃ c, mS K T c W b Dn σ H)) (tRet (tC (.bl true)))
theorem law_reads {K : Fg} {T : Tb} {W : WX} {vs : List V} {H : Hp} {Q : VK} {E : XK} {E' : St → XK} {r : Nat} {b : MM Fl} {N : List Str} (hN : 2 ≤ N.length) (hr : r < 100) (hb : RoundOk N.length b) (h : spLaw K T vs H Q E) : tLaw K T W E' r b { nx := fun _ H' => Q .non H', rt := Q } (L2.start N vs) H := by
  obtain ⟨a, ns, rfl, hS, hl, tb, q⟩ := h
  have s0 : (L2.start N [V.ref a])[0]? = some (some (.ref a)) := by unfold L2.start; simp
  have sl : (L2.start N [V.ref a]).length = N.length := by unfold L2.start; simp; omega
  refine ⟨_, s0, a, r, ns, rfl, hS, hr, hl, fun al rs H' e hal hds => .inl ⟨al, rfl, ⟨rs, .inl (.inl hal)⟩, ?_⟩⟩
  refine ⟨fun i m σ H => m = rs.length - i ∧ i ≤ rs.length ∧ σ.length = N.length ∧ LamX.Tabs T H ∧ H al = some (.lst rs) ∧ ∀ v ∈ rs, DiceAt H v, ⟨rs.length, by simp, Nat.zero_le _, sl, tb.ext e, hal, hds⟩, ?_⟩
  rintro i m σ H2 ⟨rfl, hi, hσ, tb2, hal2, hd2⟩
  have sq : SqL K H2 al rs := .inl (.inl hal2)
  by_cases hlt : i < rs.length
  · refine .inr ⟨⟨rs, rs[i], sq, by simp [hlt]⟩, fun σ H => σ.length = N.length ∧ LamX.Tabs T H ∧ H al = some (.lst rs) ∧ ∀ v ∈ rs, DiceAt H v, fun σ' H' h => ⟨rs.length - (i + 1), by omega, rfl, hlt, h⟩, fun v H3 yy => ?_⟩
    obtain ⟨e3, yy⟩ := yy
    subst e3
    have hv := yy rs sq
    obtain ⟨bd, x, y, rfl, hbd⟩ := hd2 v (List.mem_of_getElem? hv)
    have nal : al ≠ bd := fun z => by
      rw [z, hbd] at hal2
      cases hal2
      match i, hv with
      | 0, hv => simp at hv
      | 1, hv => simp at hv
      | i + 2, hv => simp at hv
    show ∃ c, mS K T c W b _ (σ.set 1 (some (.ref bd))) H3
    have h1 : 1 < σ.length := by omega
    refine ⟨⟨H3, ⟨fun _ => none, []⟩, [bd], bd, true⟩, ⟨fun _ => none, []⟩, roundSt N.length x y, ?_, ?_⟩
    · have at_ : ∀ {k : Nat} {s : S}, (roundSt N.length x y)[k]? = some (some s) → (k = 1 ∧ s = .dc [.int x, .int y]) ∨ s = .sto true [] := fun {k s} e => by
        unfold roundSt at e
        match k, e with
        | 0, e => simp at e
        | 1, e => simp at e; exact .inl ⟨rfl, e.symm⟩
        | k + 2, e =>
          rw [List.getElem?_cons_succ, List.getElem?_cons_succ] at e
          by_cases hk : k < (List.replicate (N.length - 2) (none : Option S)).length
          · rw [List.getElem?_append_left hk, List.getElem?_replicate] at e
            split at e <;> cases e
          · rw [List.getElem?_append_right (by omega)] at e
            generalize k - (List.replicate (N.length - 2) (none : Option S)).length = r at e
            match r, e with
            | 0, e => simp at e; exact .inr e.symm
            | r + 1, e => simp at e
      refine ⟨(fun _ _ z => by cases z), Le.refl _, fun _ _ _ _ => rfl, fun _ _ e _ _ => e, fun _ ps e => ⟨ps, e⟩, ?_, fun k s e ns => ?_, fun k s b' e o e2 => ?_, fun k l s t b' d' e1 e2 o1 o2 f1 f2 n => ?_, tb2, (fun _ _ z => by cases z), fun b' μ e => ?_, ⟨(fun _ z => by cases z), (fun _ z => by cases z), (fun _ z => by cases z), fun _ => rfl⟩⟩
      · unfold roundSt
        simp only [List.length_cons, List.length_append, List.length_nil, List.length_replicate, List.length_set]
        omega
      · rcases at_ e with ⟨rfl, rfl⟩ | rfl
        rotate_left
        · cases ns
        exact ⟨.ref bd, List.getElem?_set_self h1, rfl, bd, _, rfl, rfl, hbd, .cons (.int x) (.cons (.int y) .nil)⟩
      · rcases at_ e with ⟨rfl, rfl⟩ | rfl
        rotate_left
        · cases o
        rw [List.getElem?_set_self h1] at e2
        cases e2
        exact .inr (by simp)
      · rcases at_ e1 with ⟨rfl, rfl⟩ | rfl
        rotate_left
        · cases o1
        rcases at_ e2 with ⟨rfl, rfl⟩ | rfl
        rotate_left
        · cases o2
        exact absurd rfl n
      · rcases at_ e with ⟨_, z⟩ | z
        · cases z
        · cases z
          exact ⟨⟨rfl, List.nodup_nil, fun n a u e => by cases e⟩, fun _ => ⟨rfl, fun a m => by cases m⟩⟩
    · obtain ⟨ρ', hq, hdc, hlen⟩ := hb x y
      have fin : ∀ (σ' : St) (G' : Wd) (H' : Hp), Le ⟨fun _ => none, []⟩ G' → J K T ⟨H3, ⟨fun _ => none, []⟩, [bd], bd, true⟩ G' H' σ' ρ' → σ'.length = N.length ∧ LamX.Tabs T H' ∧ H' al = some (.lst rs) ∧ ∀ v ∈ rs, DiceAt H' v := fun σ' G' H' _ j' => by
        have hdc2 : ∃ x' y', ρ'[1]? = some (some (.dc [.int x', .int y'])) := by
          unfold isDc at hdc
          split at hdc
          · rename_i x' y' hx; exact ⟨x', y', hx⟩
          · cases hdc
        obtain ⟨x', y', hx⟩ := hdc2
        obtain ⟨f1, ws, f2, f3, f4⟩ := j'.dice hx
        have ew : ws = [.int x', .int y'] := by
          cases f4 with
          | cons g1 g2 =>
            cases g1
            cases g2 with
            | cons g1 g2 => cases g1; cases g2; rfl
        subst ew
        have keep : ∀ b o, H3 b = some o → b ≠ bd → (∀ ps, o ≠ .tbl ps) → H' b = some o := fun b o e n t => j'.fr b o e (by simpa using n) t
        refine ⟨?_, j'.tb, keep al _ hal2 nal (fun _ z => by cases z), fun v hv => ?_⟩
        · have := j'.len; omega
        · obtain ⟨b1, x1, y1, rfl, hb1⟩ := hd2 v hv
          by_cases z : b1 = bd
          · subst z; exact ⟨b1, x', y', rfl, f3⟩
          · exact ⟨b1, x1, y1, rfl, keep _ _ hb1 z (fun _ z => by cases z)⟩
      rcases hq with hq | hq
      · rw [hq]; exact fun σ' G' H' l' j' => fin σ' G' H' l' j'
      · rw [hq]; exact fun σ' G' H' l' j' => fin σ' G' H' l' j'
  · have ei : i = rs.length := by omega
    subst ei
    exact .inl ⟨⟨rs, sq, Nat.le_refl _⟩, q _⟩
end Mi
set_option Elab.async false
set_option linter.all false
set_option maxRecDepth 100000
set_option maxHeartbeats 4000000
namespace Mi
open PySem L2
theorem bt_int : bootBuiltins "int" = some (.type "int") := by decide +kernel
theorem bt_bool : bootBuiltins "bool" = some (.type "bool") := by decide +kernel
theorem bt_str : bootBuiltins "str" = some (.type "str") := by decide +kernel
theorem bt_tuple : bootBuiltins "tuple" = some (.type "tuple") := by decide +kernel
theorem bt_list : bootBuiltins "list" = some (.type "list") := by decide +kernel
theorem bt_dict : bootBuiltins "dict" = some (.type "dict") := by decide +kernel
theorem bt_isinstance : bootBuiltins "isinstance" = some (.builtin "isinstance") := by decide +kernel
theorem bt_len : bootBuiltins "len" = some (.builtin "len") := by decide +kernel
theorem bt_all : bootBuiltins "all" = some (.builtin "all") := by decide +kernel
theorem bt_any : bootBuiltins "any" = some (.builtin "any") := by decide +kernel
theorem bt_sum : bootBuiltins "sum" = some (.builtin "sum") := by decide +kernel
theorem bt_abs : bootBuiltins "abs" = some (.builtin "abs") := by decide +kernel
theorem bt_max : bootBuiltins "max" = some (.builtin "max") := by decide +kernel
theorem bt_min : bootBuiltins "min" = some (.builtin "min") := by decide +kernel
theorem bt_sorted : bootBuiltins "sorted" = some (.builtin "sorted") := by decide +kernel
theorem takes0 {X : Cx} : L2N.Takes X W0 := fun u s' ⟨a, B, sI, pins, σ, H, cls, d, e, I, nb, up, sky, na, os, ag, w⟩ => w.elim
section
variable {X : Cx} {T : Tb} {c : Gh} {W : WX}
theorem mv (i : Nat) {x : Str} {pos : Pos} (hN : X.N[i]? = some x := by rfl) (hv : Vis X.env.scope x := by first | exact Or.inl rfl | exact Or.inr (Or.inl rfl) | exact Or.inr (Or.inr rfl)) (hd : (x == ("__debug__" : Str)) = false := by decide)
    (hcd : (x == ("__classdict__" : Str)) = false := by decide) : PE X (.Name x pos) (mE X.K T c W (var i)) := me_var hN hv hd hcd
end
/-- a def of the module, as the head left it -/
structure DefF (K : Fg) (mg : Str → Option Value) (x : Str) (st : Stmt) (ps : List Str) where
  f : Addr
  fd : FuncData
  F : Fun K x x st f fd
  g : mg x = some (.ref f)
  b : Binds K fd ps []
end Mi
set_option Elab.async false
set_option linter.all false
set_option maxRecDepth 100000
set_option maxHeartbeats 4000000
namespace Mi
open PySem L2
/-! ### several values at once, some of them owned -/
def newAt : List V → List S → List Addr
  | .ref D :: vs, s :: ss => if s.own = true then D :: newAt vs ss else newAt vs ss
  | _ :: vs, _ :: ss => newAt vs ss
  | _, _ => []
inductive AllS (K : Fg) (c : Gh) (G : Wd) (H : Hp) (σ : St) (ρ : MSt) : List V → List S → Prop
  | nil : AllS K c G H σ ρ [] []
  | dat {v : V} {x : D} {vs : List V} {ss : List S} : Dq K G v x → AllS K c G H σ ρ vs ss → AllS K c G H σ ρ (v :: vs) (.d x :: ss)
  | own {q : Addr} {s : S} {vs : List V} {ss : List S} : s.own = true → RS K c.da G H s (.ref q) → (c.H0 q = none ∨ q ∈ c.M) → q ∉ owns σ ρ ∧ q ∉ G.m → q ∉ newAt vs ss → AllS K c G H σ ρ vs ss → AllS K c G H σ ρ (.ref q :: vs) (s :: ss)
theorem newAt_dat {v : V} {x : D} {vs : List V} {ss : List S} : newAt (v :: vs) (.d x :: ss) = newAt vs ss := by
  cases v <;> simp [newAt, S.own]
theorem newAt_own {D : Addr} {s : S} {vs : List V} {ss : List S} (h : s.own = true) : newAt (.ref D :: vs) (s :: ss) = D :: newAt vs ss := by
  simp [newAt, h]
def putsV : St → List Nat → List V → St
  | σ, i :: is, v :: vs => putsV (σ.set i (some v)) is vs
  | σ, _, _ => σ
def putsS : MSt → List Nat → List S → MSt
  | ρ, i :: is, s :: ss => putsS (ρ.set i (some s)) is ss
  | ρ, _, _ => ρ
theorem owns_put {σ : St} {ρ : MSt} {i : Nat} {v : V} {s : S} {b : Addr} (h : b ∈ owns (σ.set i (some v)) (ρ.set i (some s))) : b ∈ owns σ ρ ∨ (v = .ref b ∧ s.own = true) := by
  obtain ⟨k, t, e1, e2, e3⟩ := mem_owns.mp h
  by_cases z : k = i
  · subst z
    have hk : k < ρ.length := by
      have := (List.getElem?_eq_some_iff.mp e1).1
      simpa using this
    have hk2 : k < σ.length := by
      have := (List.getElem?_eq_some_iff.mp e3).1
      simpa using this
    rw [List.getElem?_set_self hk] at e1
    rw [List.getElem?_set_self hk2] at e3
    cases e1
    cases e3
    exact .inr ⟨rfl, e2⟩
  · rw [List.getElem?_set_ne (Ne.symm z)] at e1 e3
    exact .inl (mem_owns.mpr ⟨k, t, e1, e2, e3⟩)
theorem AllS.put {K : Fg} {c : Gh} {G : Wd} {H : Hp} {σ : St} {ρ : MSt} {i : Nat} {v : V} {s : S} {vs : List V} {ss : List S} (n : ∀ q, v = .ref q → s.own = true → q ∉ newAt vs ss) (a : AllS K c G H σ ρ vs ss) : AllS K c G H (σ.set i (some v)) (ρ.set i (some s)) vs ss := by
  induction a with
  | nil => exact .nil
  | dat h t ih => exact .dat h (ih fun q e o => by have := n q e o; rw [newAt_dat] at this; exact this)
  | @own aa _ _ _ o r h0 no nn t ih =>
    refine .own o r h0 ⟨fun m => ?_, no.2⟩ nn (ih fun q e o' m => ?_)
    · rcases owns_put m with q | ⟨q1, q2⟩
      · exact no.1 q
      · have := n aa q1 q2
        rw [newAt_own o] at this
        exact this List.mem_cons_self
    · have := n q e o'
      rw [newAt_own o] at this
      exact this (List.mem_cons_of_mem _ m)
theorem J.puts {K : Fg} {T : Tb} {c : Gh} {G : Wd} {H : Hp} : ∀ {is : List Nat} {vs : List V} {ss : List S} {σ : St} {ρ : MSt}, (∀ i ∈ is, i + 1 < ρ.length) → J K T c G H σ ρ → AllS K c G H σ ρ vs ss → J K T c G H (putsV σ is vs) (putsS ρ is ss)
  | [], vs, ss, σ, ρ, _, j, _ => by cases vs <;> cases ss <;> exact j
  | i :: is, [], ss, σ, ρ, _, j, a => by cases a; exact j
  | i :: is, v :: vs, [], σ, ρ, _, j, a => by cases a
  | i :: is, v :: vs, s :: ss, σ, ρ, hi, j, a => by
    have h1 : i + 1 < ρ.length := hi i List.mem_cons_self
    have h2 : ∀ k ∈ is, k + 1 < (ρ.set i (some s)).length := fun k m => by simpa using hi k (List.mem_cons_of_mem _ m)
    cases a with
    | dat h t => exact J.puts (is := is) (σ := σ.set i (some v)) (ρ := ρ.set i (some (.d _))) h2 (j.set h1 h) (AllS.put (fun _ _ o => by cases o) t)
    | @own q _ _ _ o r h0 no nn t => exact J.puts (is := is) (σ := σ.set i (some (.ref q))) (ρ := ρ.set i (some s)) h2 (j.keep h1 o r h0 no) (AllS.put (fun _ e _ => by cases e; exact nn) t)
section
variable (K : Fg) (T : Tb) (c : Gh) (W : WX)
def pL (σ : St) (G : Wd) (Q : List V → Hp → Prop) : Out (List S) → Prop
  | .ok ss ρ' => ∀ vs G' H', Le G G' → J K T c G' H' σ ρ' → AllS K c G' H' σ ρ' vs ss → Q vs H'
  | .exn e ρ' => ∀ cls dx G' H', Le G G' → J K T c G' H' σ ρ' → IsX K H' e cls dx → W cls dx σ H'
  | .stuck => False
def mL (f : MM (List S)) : TA := fun σ H Q => ∃ G ρ, J K T c G H σ ρ ∧ pL K T c W σ G Q (f ρ)
end
theorem AllS.le {K : Fg} {c : Gh} {G G' : Wd} {H H' : Hp} {σ : St} {ρ ρ' : MSt} {vs : List V} {ss : List S} (l : Le G G') (n : ∀ q ∈ newAt vs ss, (q ∉ owns σ ρ' ∧ q ∉ G'.m) ∧ G' q = none ∧ ∀ o, H q = some o → (∀ ps, o ≠ .tbl ps) → H' q = some o) (a : AllS K c G H σ ρ vs ss) : AllS K c G' H' σ ρ' vs ss := by
  induction a with
  | nil => exact .nil
  | dat h t ih => exact .dat (h.le l) (ih fun q m => n q (by rw [newAt_dat]; exact m))
  | @own aa s _ _ o r h0 no nn t ih =>
    obtain ⟨n1, n2, n3⟩ := n aa (by rw [newAt_own o]; exact List.mem_cons_self)
    refine .own o ?_ h0 n1 nn (ih fun q m => n q (by rw [newAt_own o]; exact List.mem_cons_of_mem _ m))
    cases s with
    | d x => cases o
    | sto b μ => cases o
    | ol xs => obtain ⟨a, vs, e, g, hh, r⟩ := r; cases e; exact ⟨_, vs, rfl, n2, n3 _ hh (fun _ z => by cases z), r.le l⟩
    | od xs => obtain ⟨a, vs, e, g, hh, r⟩ := r; cases e; exact ⟨_, vs, rfl, n2, n3 _ hh (fun _ z => by cases z), r.le l⟩
    | dc xs => obtain ⟨e0, a, vs, e, g, hh, r⟩ := r; cases e; exact ⟨e0, _, vs, rfl, n2, n3 _ hh (fun _ z => by cases z), r.le l⟩
theorem AllS.newH {K : Fg} {c : Gh} {G : Wd} {H : Hp} {σ : St} {ρ : MSt} : ∀ {vs : List V} {ss : List S}, AllS K c G H σ ρ vs ss → ∀ D ∈ newAt vs ss, ∃ o, H D = some o ∧ G D = none ∧ (∀ ps, o ≠ .tbl ps) ∧ (c.H0 D = none ∨ D ∈ c.M) ∧ D ∉ owns σ ρ ∧ D ∉ G.m
  | _, _, .nil, D, m => by simp [newAt] at m
  | _, _, .dat h t, D, m => by rw [newAt_dat] at m; exact AllS.newH t D m
  | _, _, .own o r h0 no nn t, D, m => by
    rw [newAt_own o] at m
    rcases List.mem_cons.mp m with e | m
    · subst e
      obtain ⟨a, u, e, g, hh, t1, _⟩ := r.addr o
      cases e
      exact ⟨u, hh, g, t1, h0, no⟩
    · exact AllS.newH t D m
section
variable {X : Cx} {T : Tb} {c : Gh} {W : WX} {e : Expr} {es : List Expr} {f : MM D} {fo : MM S} {g : MM (List S)} {pos : Pos}
theorem ml_nil : PA X [] (mL X.K T c W (MM.pure [])) := pa_mono pa_nil fun σ H Q ⟨G, ρ, j, p⟩ => p [] G H (Le.refl G) j .nil
def consD (f : MM D) (g : MM (List S)) : MM (List S) := MM.bind f fun x => MM.bind g fun ss => MM.pure (.d x :: ss)
def consS (f : MM S) (g : MM (List S)) : MM (List S) := MM.bind f fun x => MM.bind g fun ss => MM.pure (x :: ss)
theorem ml_dat (he : PE X e (mE X.K T c W f)) (hr : PA X es (mL X.K T c W g)) (hs : starEach (e :: es) X.env = (false, eval e X.env) :: starEach es X.env := by rfl) : PA X (e :: es) (mL X.K T c W (consD f g)) := by
  refine pa_mono (pa_cons he hr hs) fun σ H Q ⟨G, ρ, j, p⟩ => ?_
  refine ⟨G, ρ, j, ?_⟩
  unfold consD MM.bind at p
  cases z : f ρ with
  | exn y ρ1 => rw [z] at p; exact p
  | stuck => rw [z] at p; exact p.elim
  | ok x ρ1 =>
    rw [z] at p
    intro v G1 H1 l1 j1 r1
    refine ⟨G1, ρ1, j1, ?_⟩
    cases z2 : g ρ1 with
    | exn y ρ2 => simp only [z2] at p; exact fun cls dx G' H' l => p cls dx G' H' (l1.trans l)
    | stuck => simp only [z2] at p; exact p.elim
    | ok ss ρ2 =>
      simp only [z2] at p
      exact fun vs G2 H2 l2 j2 a => p _ G2 H2 (l1.trans l2) j2 (.dat (r1.le l2) a)
theorem ml_own (he : PE X e (mO X.K T c W fo)) (hr : ∀ c, PA X es (mL X.K T c W g)) (hs : starEach (e :: es) X.env = (false, eval e X.env) :: starEach es X.env := by rfl) : PA X (e :: es) (mL X.K T c W (consS fo g)) := by
  refine pa_mono (pa_cons (t := fun σ H Q => ∃ c, mL X.K T c W g σ H Q) he ⟨fun pos pins s σ H Q I ⟨c, q⟩ => (hr c).run pos pins s σ H Q I q⟩ hs) fun σ H Q ⟨G, ρ, j, p⟩ => ?_
  refine ⟨G, ρ, j, ?_⟩
  unfold consS MM.bind at p
  cases z : fo ρ with
  | exn y ρ1 => rw [z] at p; exact p
  | stuck => rw [z] at p; exact p.elim
  | ok x ρ1 =>
    rw [z] at p
    intro D G1 H1 l1 j1 o r h0 no
    refine ⟨here c G1 H1 σ ρ1, G1, ρ1, j1.here, ?_⟩
    obtain ⟨a', u, ea, gD, hD, tD, cD, _⟩ := r.addr o
    cases ea
    have nh := not_here (c := c) (H := H1) no
    have hn : (here c G1 H1 σ ρ1).H0 D ≠ none := by show H1 D ≠ none; rw [hD]; exact fun z => by cases z
    cases z2 : g ρ1 with
    | exn y ρ2 => simp only [z2] at p; exact fun cls dx G' H' l j' => p cls dx G' H' (l1.trans l) (j1.back j')
    | stuck => simp only [z2] at p; exact p.elim
    | ok ss ρ2 =>
      simp only [z2] at p
      intro vs G2 H2 l2 j2 a
      have jb := j1.back j2
      have hD2 : H2 D = some u := j2.fr D _ hD nh tD
      have gD2 : G2 D = none := j2.gn D gD hn nh
      have noD : D ∉ owns σ ρ2 ∧ D ∉ G2.m := j2.apart hn nh no.2
      have nn : D ∉ newAt vs ss := fun m => by
        obtain ⟨_, _, _, _, q, _⟩ := a.newH D m
        exact q.elim hn nh
      have a' : AllS X.K c G2 H2 σ ρ2 vs ss := by
        have : ∀ {vs : List V} {ss : List S}, AllS X.K (here c G1 H1 σ ρ1) G2 H2 σ ρ2 vs ss → AllS X.K c G2 H2 σ ρ2 vs ss := fun {vs ss} a => by
          induction a with
          | nil => exact .nil
          | dat h t ih => exact .dat h ih
          | own o r h0 no nn t ih =>
            refine .own o ?_ ?_ no nn ih
            · exact r
            · rcases h0 with z | z
              · exact j1.H0none z
              · exact j1.hereM z
        exact this a
      refine p _ G2 H2 (l1.trans l2) jb (.own o ?_ h0 noD nn a')
      cases x with
      | d y => cases o
      | sto b μ => cases o
      | ol ys => obtain ⟨b, ws, e1, g1, hh, r⟩ := r; cases e1; rw [hD] at hh; cases hh; exact ⟨_, ws, rfl, gD2, hD2, r.le l2⟩
      | od ys => obtain ⟨b, ws, e1, g1, hh, r⟩ := r; cases e1; rw [hD] at hh; cases hh; exact ⟨_, ws, rfl, gD2, hD2, r.le l2⟩
      | dc ys => obtain ⟨e0, b, ws, e1, g1, hh, r⟩ := r; cases e1; rw [hD] at hh; cases hh; exact ⟨e0, _, ws, rfl, gD2, hD2, r.le l2⟩
theorem mo_newL {lp : Pos} : PE X (.List [] lp) (mO X.K T c W (MM.pure (.ol []))) :=
  pe_mono (pe_lst pa_nil) fun σ H Q ⟨G, ρ, j, p⟩ => ⟨Nat.zero_le _, fun q hq => p q G _ (Le.refl G) (j.aside hq) rfl ⟨q, [], rfl, j.fresh hq, upd_same, .nil⟩ (j.H0none hq) ⟨j.notOwn hq, j.freshM hq⟩⟩
theorem mo_newD {lp : Pos} : PE X (.Dict [] [] lp) (mO X.K T c W (MM.pure (.od []))) :=
  pe_mono pe_dnewK fun σ H Q ⟨G, ρ, j, p⟩ => fun q hq => p q G _ (Le.refl G) (j.aside hq) rfl ⟨q, [], rfl, j.fresh hq, upd_same, .nil⟩ (j.H0none hq) ⟨j.notOwn hq, j.freshM hq⟩
/-! the stores -/
def putsR (is : List Nat) (ss : List S) : MM Fl := fun ρ => if is.length = ss.length ∧ (∀ i ∈ is, i + 1 < ρ.length) then .ok .nx (putsS ρ is ss) else .stuck
def parL (is : List Nat) (g : MM (List S)) : MM Fl := MM.bind g (putsR is)
theorem AllS.length {K : Fg} {c : Gh} {G : Wd} {H : Hp} {σ : St} {ρ : MSt} : ∀ {vs : List V} {ss : List S}, AllS K c G H σ ρ vs ss → vs.length = ss.length
  | _, _, .nil => rfl
  | _, _, .dat _ t => by simp [AllS.length t]
  | _, _, .own _ _ _ _ _ t => by simp [AllS.length t]
theorem parL_to {is : List Nat} {Dn : Ends} {σ : St} {H : Hp} {R : List V → Hp → Prop} (h : mS X.K T c W (parL is g) Dn σ H)
    (k : ∀ vs H1, vs.length = is.length → (∀ G1 (ρ1 : MSt), J X.K T c G1 H1 σ ρ1 → True) → (∀ H2, (∀ b o, H1 b = some o → H2 b = some o) → (H2 = H1 ∨ ∃ p o, H1 p = none ∧ H2 = upd H1 p o) → Dn.nx (putsV σ is vs) H2) → R vs H1) : mL X.K T c W g σ H R := by
  obtain ⟨G, ρ, j, p⟩ := h
  refine ⟨G, ρ, j, ?_⟩
  unfold parL MM.bind at p
  cases z : g ρ with
  | exn y ρ1 => rw [z] at p; exact fun cls dx G' H' l j' i => p cls dx σ G' H' l j' i
  | stuck => rw [z] at p; exact p.elim
  | ok ss ρ1 =>
    rw [z] at p
    intro vs G1 H1 l1 j1 a
    have p2 : pS X.K T c W Dn G (putsR is ss ρ1) := p
    unfold putsR at p2
    by_cases hl : is.length = ss.length ∧ ∀ i ∈ is, i + 1 < ρ1.length
    · rw [if_pos hl] at p2
      refine k vs H1 (a.length.trans hl.1.symm) (fun _ _ _ => trivial) fun H2 _ hh => ?_
      rcases hh with rfl | ⟨q, o, hq, rfl⟩
      · exact p2 _ G1 H2 l1 (J.puts hl.2 j1 a)
      · refine p2 _ G1 _ l1 (J.puts hl.2 (j1.aside hq) (a.le (Le.refl G1) fun D m => ?_))
        obtain ⟨o', h1, h2, h3, h4, h5⟩ := a.newH D m
        exact ⟨h5, h2, fun o e _ => by rw [upd_ne (ne_of_none e hq)]; exact e⟩
    · rw [if_neg hl] at p2; exact p2.elim
theorem ms_parL {i k : Nat} {x y : Str} {a b : Expr} {px py pt : Pos} {kt k2 pt2} (hc : X.calm = true) (hN : X.N.Nodup) (hi : X.N[i]? = some x) (hj : X.N[k]? = some y) (hij : i ≠ k)
    (hx : X.env.scope.names.lookup x = some .local) (hy : X.env.scope.names.lookup y = some .local) (ha : PA X [a, b] (mL X.K T c W g))
    (hw : swappedStores [.Tuple [.Name x px, .Name y py] kt pt] (.Tuple [a, b] k2 pt2) X.env = pure (some [x, y]))
    (hs : swapsWithSole [.Tuple [.Name x px, .Name y py] kt pt] (.Tuple [a, b] k2 pt2) pos.line X.env = pure false := by rfl) :
    PS X (.Assign [.Tuple [.Name x px, .Name y py] kt pt] (.Tuple [a, b] k2 pt2) pos) (mS X.K T c W (parL [i, k] g)) := by
  refine ps_mono (ps_par hc hN hi hj hij hx hy ha hw hs) fun Dn σ H h => ?_
  refine parL_to h fun vs H1 hl _ q => ?_
  match vs, hl with
  | [v, w], _ => exact ⟨v, w, rfl, q H1 (fun _ _ e => e) (.inl rfl)⟩
theorem ms_parL3 {i j k : Nat} {x y z : Str} {a b d : Expr} {px py pz pt : Pos} {kt k2 pt2} (hc : X.calm = true) (hN : X.N.Nodup) (hi : X.N[i]? = some x) (hj : X.N[j]? = some y) (hk : X.N[k]? = some z) (hij : i ≠ j) (hik : i ≠ k) (hjk : j ≠ k)
    (hx : X.env.scope.names.lookup x = some .local) (hy : X.env.scope.names.lookup y = some .local) (hz : X.env.scope.names.lookup z = some .local) (ha : PA X [a, b, d] (mL X.K T c W g))
    (hw : swappedStores [.Tuple [.Name x px, .Name y py, .Name z pz] kt pt] (.Tuple [a, b, d] k2 pt2) X.env = pure (some [x, y, z]))
    (hs : swapsWithSole [.Tuple [.Name x px, .Name y py, .Name z pz] kt pt] (.Tuple [a, b, d] k2 pt2) pos.line X.env = pure false := by rfl) :
    PS X (.Assign [.Tuple [.Name x px, .Name y py, .Name z pz] kt pt] (.Tuple [a, b, d] k2 pt2) pos) (mS X.K T c W (parL [i, j, k] g)) := by
  refine ps_mono (ps_par3 hc hN hi hj hk hij hik hjk hx hy hz ha hw hs) fun Dn σ H h => ?_
  refine parL_to h fun vs H1 hl _ q => ?_
  match vs, hl with
  | [v, w, u], _ => exact ⟨v, w, u, rfl, q H1 (fun _ _ e => e) (.inl rfl)⟩
/-- the names of a tuple target -/
inductive PNs (X : Cx) : List Expr → List Nat → Prop
  | nil : PNs X [] []
  | cons {i : Nat} {x : Str} {pos : Pos} {es : List Expr} {is : List Nat} (hi : X.N[i]? = some x) (hx : Loc X.env.scope x) (hf : X.fn x = true ∨ X.env.scope.names.lookup x = some .local) : PNs X es is → PNs X (.Name x pos :: es) (i :: is)
def gNames : List Nat → TGs
  | [] => gNil
  | i :: is => gCons (gName i) (gNames is)
theorem pns_gs (hN : X.N.Nodup) : ∀ {es : List Expr} {is : List Nat}, PNs X es is → PGs X es (gNames is)
  | _, _, .nil => pgs_nil
  | _, _, .cons hi hx hf t => pgs_cons (pg_name hN hi hx hf) (pns_gs hN t)
theorem gNames_of {Q : St → Hp → Prop} {H : Hp} : ∀ {is : List Nat} {vs : List V} {σ : St}, vs.length = is.length → Q (putsV σ is vs) H → gNames is vs σ H Q
  | [], [], σ, _, q => ⟨rfl, q⟩
  | [], v :: vs, _, h, _ => by cases h
  | i :: is, [], _, h, _ => by cases h
  | i :: is, v :: vs, σ, h, q => ⟨v, vs, rfl, gNames_of (by simpa using h) q⟩
/-- x, y, .. = e, f, .. by a tuple -/
theorem ms_unpk {ts : List Expr} {es : List Expr} {is : List Nat} {kt pt k2 pt2} (hc : X.calm = true) (hN : X.N.Nodup) (hn : PNs X ts is) (ha : PA X es (mL X.K T c W g)) (hl : is.length ≤ sizeLine := by decide)
    (hs : swapsWithSole [.Tuple ts kt pt] (.Tuple es k2 pt2) pos.line X.env = pure false := by rfl) (hw : swappedStores [.Tuple ts kt pt] (.Tuple es k2 pt2) X.env = pure none := by rfl)
    (h1 : (assignEach [.Tuple ts kt pt] X.env).map (·.2) = [assign (.Tuple ts kt pt) X.env] := by rfl) (hn2 : (assignEach ts X.env).length = is.length := by rfl) (hst : (assignEach ts X.env).findIdx? (·.1) = none := by rfl) :
    PS X (.Assign [.Tuple ts kt pt] (.Tuple es k2 pt2) pos) (mS X.K T c W (parL is g)) := by
  refine ps_mono (ps_asg (pe_tupF ha) (pg_tup hc (pns_gs hN hn) hn2 hst) hs hw h1) fun Dn σ H h => ?_
  refine parL_to h fun vs H1 hlen _ q => ⟨by rw [hlen]; exact hl, fun p o hp ho => ?_⟩
  refine ⟨p, vs, rfl, .inl (.inr ⟨o, upd_same⟩), hlen, gNames_of hlen (q _ (fun b u e => by rw [upd_ne (ne_of_none e hp)]; exact e) (.inr ⟨p, _, hp, rfl⟩))⟩
/-! ### -e, e ** f -/
def negE (f : MM D) : MM D := MM.bind f fun x => match x with
  | .int i => MM.pure (.int (-i))
  | _ => stuck
theorem me_neg {a : Expr} (ha : PE X a (mE X.K T c W f)) : PE X (.UnaryOp .USub a pos) (mE X.K T c W (negE f)) := by
  refine pe_mono (pe_un un_neg ha) fun σ H Q ⟨G, ρ, j, p⟩ => ?_
  refine pX_bind j p fun x v ρ1 G1 H1 l1 j1 r1 p1 => ?_
  cases r1 with
  | int i => exact ⟨i, rfl, p1.here j1 (.int _)⟩
  | _ => exact p1.elim
def dPow : D → D → Res D := intOp fun i j => if 0 ≤ j ∧ j ≤ 1000000 ∧ i.natAbs < 2 ^ 64 then .ok (.int (i ^ j.toNat)) else .stuck
theorem o_pow : Op2 X T c W (binaryOp .Pow) dPow := Op2.mk op_pow (fun G H x y d e q Q l dx dy hq k => by
  cases dx with
  | int i =>
    cases dy with
    | int j => obtain ⟨p, rfl⟩ := ite_res hq; exact ⟨_, _, rfl, rfl, p, k.1 _ (.int _)⟩
    | _ => exact nomatch hq
  | _ => cases dy <;> exact nomatch hq) fun d e y z => by cases d <;> cases e <;> first | (exact ite_nx z) | (exact nomatch z)
end
end Mi
set_option Elab.async false
set_option linter.all false
set_option maxRecDepth 100000
set_option maxHeartbeats 4000000
namespace Mi
open PySem L2
def blkB (N : List Str) (sc scope : Scope) (own : List (Str × Nat)) : Bool := decide (scope.kind = .function) && (scope.names.all fun y => decide (scope.names.lookup y.1 = some y.2)) && (own.all fun p => decide (N[p.2]? = some p.1)) &&
  (scope.names.all fun y => !decide (y.2 = .free) || (decide (sc.names.lookup y.1 = some .cell) || decide (sc.names.lookup y.1 = some .free))) &&
  (scope.names.all fun y => !(decide (y.2 = .local) || decide (y.2 = .cell)) || (decide (y.1 ∈ own.map (·.1)) || decide (y.1 ∉ N)))
theorem blk_of {N : List Str} {sc scope : Scope} (own : List (Str × Nat)) (h : blkB N sc scope own = true) : BlkOk N sc scope own := by
  unfold blkB at h
  simp only [Bool.and_eq_true, decide_eq_true_eq, List.all_eq_true, Bool.or_eq_true, Bool.not_eq_true', decide_eq_false_iff_not] at h
  obtain ⟨⟨⟨⟨h1, h2⟩, h3⟩, h4⟩, h5⟩ := h
  refine ⟨h1, h2, h3, fun y m e => ?_, fun y m e => ?_⟩
  · rcases h4 y m with z | z
    · exact absurd e z
    · exact z
  · rcases h5 y m with z | z
    · simp only [Bool.or_eq_false_iff, decide_eq_false_iff_not] at z
      exact (e.elim z.1 z.2).elim
    · exact z
/-- for x in e: a list, a tuple, a text, a dict -/
def iterAll : D → Res (List D)
  | .list xs => .ok xs
  | .tuple xs => .ok xs
  | .str s => .ok (charsD s)
  | .dict kvs => .ok (keysD kvs)
  | _ => .stuck
section
variable {X : Cx} {T : Tb} {c : Gh} {W : WX} {e tg iter : Expr} {f : MM D} {pos : Pos}
theorem pi_or {te : TE} {w1 w2 : V → Hp → (It → Hp → Prop) → Prop} (h1 : PI X tg e (fun σ H R => te σ H fun x H1 => w1 x H1 R)) (h2 : PI X tg e (fun σ H R => te σ H fun x H1 => w2 x H1 R)) : True := trivial
theorem pi_all {te : TE} (he : PE X e te) : PI X tg e (fun σ H R => te σ H fun x H1 => (∃ a, x = .ref a ∧ (∃ xs, SqL X.K H1 a xs) ∧ R (Itl X.K a) H1) ∨ (∃ a, x = .ref a ∧ (∃ xs, SqT X.K H1 a xs) ∧ R (Itt X.K a) H1) ∨ (∃ s, x = .str s ∧ R (Its s) H1) ∨ ∃ d o kvs, x = .ref d ∧ H1 d = some (.frz o (.dK kvs)) ∧ R (Itk d o kvs) H1) := by
  refine ⟨fun pins s σ H R I h => ?_⟩
  refine thn (he.run pins s σ H _ I h) fun v s1 ⟨x, H1, I1, r1, q1⟩ => ?_
  rcases q1 with ⟨a, e, hq, q⟩ | ⟨a, e, hq, q⟩ | ⟨z, e, q⟩ | ⟨d, o, kvs, e, hd, q⟩
  · subst e
    cases r1
    obtain ⟨xs, hq⟩ := hq
    obtain ⟨its, rv, p, hz⟩ := I1.list hq
    refine wpAny_pyIter_list p.isList ?_
    refine ⟨s1.heap.objs.size, [s1.heap.objs.size], _, _, H1, rfl, I1.kept (t' := s1.toks) fun b o e => Heap.get?_push_of_some _ e, turn_list a _, ⟨_, Heap.get?_push_size _ rfl, rfl, rfl⟩, fun b hb => ?_, q⟩
    have e : b = s1.heap.objs.size := by simpa using hb
    subst e
    exact I1.fpOk (Nat.le_refl _) (I1.hok.fresh (Nat.le_refl _))
  · subst e
    cases r1
    obtain ⟨xs, hq⟩ := hq
    obtain ⟨its, rv, p, hz⟩ := I1.tuple hq
    refine wpAny_pyIter_tuple (show s1.heap.IsTuple a its.toArray from p) ?_
    refine ⟨s1.heap.objs.size, [s1.heap.objs.size], _, _, H1, rfl, I1.kept (t' := s1.toks) fun b o e => Heap.get?_push_of_some _ e, turn_tuple a _, ⟨_, Heap.get?_push_size _ rfl, rfl, rfl⟩, fun b hb => ?_, q⟩
    have e : b = s1.heap.objs.size := by simpa using hb
    subst e
    exact I1.fpOk (Nat.le_refl _) (I1.hok.fresh (Nat.le_refl _))
  · subst e
    obtain ⟨t, rfl⟩ := r1
    cases ha : z.cps.all (· < 128)
    · exact wpAny_pyIter_wide ha (pi_one (tk := s1.toks) I1 _ (turn_str _ z t "str_iterator" (.inr rfl)) ⟨_, Heap.get?_push_size _ rfl, rfl, rfl⟩ q)
    · exact wpAny_pyIter_ascii ha (pi_one (tk := s1.toks) I1 _ (turn_str _ z t "str_ascii_iterator" (.inl rfl)) ⟨_, Heap.get?_push_size _ rfl, rfl, rfl⟩ q)
  · subst e
    cases r1
    obtain ⟨hs, hgd, hx, es, ep, vs, hdt, hsz, kv, hm⟩ := I1.frzK hd
    refine iter_keys hs hgd hx hdt (pi_one (tk := s1.toks) I1 _ (turn_keys _ hdt) ⟨_, Heap.get?_push_size _ rfl, rfl, ?_⟩ q)
    rw [hsz] <;> rfl
def iterA (f : MM D) : MM (List D) := MM.bind f fun x => lift (iterAll x)
theorem mi_all (he : PE X e (mE X.K T c W f)) : PI X tg e (mI X.K T c W (relD X.K) (iterA f)) := by
  refine ⟨fun pins s σ H R I h => (pi_all (tg := tg) he).run pins s σ H R I ?_⟩
  obtain ⟨G, ρ, j, p⟩ := h
  refine pX_bind j p fun x v ρ1 G1 H1 l1 j1 r1 p1 => ?_
  cases r1 with
  | lst hq hr => exact .inl ⟨_, rfl, ⟨_, sqL_sub (.inl hq) j1.subH⟩, p1 _ G1 H1 (Le.refl G1) j1 (gives_list (.inl hq) hr)⟩
  | tup hq hr => exact .inr (.inl ⟨_, rfl, ⟨_, sqT_sub hq.sq j1.subH⟩, p1 _ G1 H1 (Le.refl G1) j1 (gives_tup hq.sq hr)⟩)
  | str z => exact .inr (.inr (.inl ⟨z, rfl, p1 _ G1 H1 (Le.refl G1) j1 gives_str⟩))
  | dic hq hr => obtain ⟨o, hq⟩ := hq; exact .inr (.inr (.inr ⟨_, o, _, rfl, j1.sub _ _ hq, p1 _ G1 H1 (Le.refl G1) j1 (gives_keys hq hr)⟩))
  | _ => exact p1.elim
theorem mgn (i : Nat) {x : Str} (hN : X.N.Nodup) (hi : X.N[i]? = some x := by rfl) (hx : Loc X.env.scope x := by first | exact Or.inl rfl | exact Or.inr rfl) (hf : X.fn x = true ∨ X.env.scope.names.lookup x = some .local := by first | exact .inl rfl | exact .inr rfl | assumption) : PG X (.Name x pos) (mG X.K T c (relD X.K) [i] (setD i)) := mg_name hN hi hx hf
theorem mgc (i : Nat) {is : List Nat} {x : Str} {es : List Expr} (hN : X.N.Nodup) (h2 : PGs X es (mGs X.K T c is (setMany is))) (hi : X.N[i]? = some x := by rfl) (hx : Loc X.env.scope x := by first | exact Or.inl rfl | exact Or.inr rfl)
    (hs : (assignEach (.Name x pos :: es) X.env).map (·.2) = assign (.Name x pos) X.env :: (assignEach es X.env).map (·.2) := by rfl) (hf : X.fn x = true ∨ X.env.scope.names.lookup x = some .local := by first | exact .inl rfl | exact .inr rfl | assumption) : PGs X (.Name x pos :: es) (mGs X.K T c (i :: is) (setMany (i :: is))) := mgs_cons hN hi hx h2 hf hs
theorem pnc (i : Nat) {x : Str} {es : List Expr} {is : List Nat} (h : PNs X es is) (hi : X.N[i]? = some x := by rfl) (hx : Loc X.env.scope x := by first | exact Or.inl rfl | exact Or.inr rfl) (hf : X.fn x = true ∨ X.env.scope.names.lookup x = some .local := by first | exact .inl rfl | exact .inr rfl | assumption) : PNs X (.Name x pos :: es) (i :: is) := .cons hi hx hf h
end
end Mi
set_option Elab.async false
set_option linter.all false
set_option maxRecDepth 100000
set_option maxHeartbeats 4000000
namespace Mi
open PySem L2
/-! ### evaluating mirrors by simp: no step leaves a lambda -/
@[simp] theorem size_eq : sizeLine = 16777216 := rfl
def Out.bind {α β : Type} (o : Out α) (g : α → MM β) : Out β := match o with
  | .ok a ρ => g a ρ
  | .exn e ρ => .exn e ρ
  | .stuck => .stuck
section
variable {α β : Type} {ρ : MSt} {a : α} {g : α → MM β} {f : MM α}
@[simp] theorem Out.bind_ok : Out.bind (.ok a ρ) g = g a ρ := rfl
@[simp] theorem Out.bind_exn {e : Exn} : Out.bind (.exn e ρ : Out α) g = .exn e ρ := rfl
@[simp] theorem Out.bind_stuck : Out.bind (.stuck : Out α) g = .stuck := rfl
@[simp] theorem Out.bind_ite {p : Prop} [Decidable p] {o o' : Out α} : Out.bind (if p then o else o') g = if p then Out.bind o g else Out.bind o' g := by split <;> rfl
@[simp] theorem bind_ap : MM.bind f g ρ = Out.bind (f ρ) g := rfl
@[simp] theorem pure_ap : (MM.pure a : MM α) ρ = .ok a ρ := rfl
@[simp] theorem stuck_ap : (stuck : MM α) ρ = .stuck := rfl
@[simp] theorem lift_ok : lift (.ok a) ρ = .ok a ρ := rfl
@[simp] theorem lift_stuck : lift (.stuck : Res α) ρ = .stuck := rfl
@[simp] theorem lift_exn {e : Exn} : lift (.exn e : Res α) ρ = .exn e ρ := rfl
@[simp] theorem lift_ite {p : Prop} [Decidable p] {o o' : Res α} : lift (if p then o else o') ρ = if p then lift o ρ else lift o' ρ := by split <;> rfl
@[simp] theorem ite_ap {p : Prop} [Decidable p] {m m' : MM α} : (if p then m else m') ρ = if p then m ρ else m' ρ := by split <;> rfl
end
def slotD (o : Option (Option S)) (ρ : MSt) : Out D := match o with
  | some (some (.d x)) => .ok x ρ
  | _ => .stuck
@[simp] theorem slotD_d {x : D} {ρ : MSt} : slotD (some (some (.d x))) ρ = .ok x ρ := rfl
section
variable {ρ : MSt} {f f1 f2 f3 : MM D} {g g' : D → D → Res D} {t t1 t2 : MM Bool} {s s1 s2 : MM Fl} {i : Nat} {x y z d : D} {b b' : Bool} {p : Prop} [Decidable p] {e : Exn}
@[simp] theorem var_ap : var i ρ = slotD ρ[i]? ρ := by unfold var slotD; rfl
/-! two operands -/
def op2K (g : D → D → Res D) (f2 : MM D) (o : Out D) : Out D := Out.bind o fun x ρ => Out.bind (f2 ρ) fun y => lift (g x y)
def op2L (g : D → D → Res D) (x : D) (o : Out D) : Out D := Out.bind o fun y => lift (g x y)
@[simp] theorem op2_ap : op2 g f1 f2 ρ = op2K g f2 (f1 ρ) := rfl
@[simp] theorem op2K_ok : op2K g f2 (.ok x ρ) = op2L g x (f2 ρ) := rfl
@[simp] theorem op2K_stuck : op2K g f2 .stuck = .stuck := rfl
@[simp] theorem op2K_ite {o o' : Out D} : op2K g f2 (if p then o else o') = if p then op2K g f2 o else op2K g f2 o' := by split <;> rfl
@[simp] theorem op2L_ok : op2L g x (.ok y ρ) = lift (g x y) ρ := rfl
@[simp] theorem op2L_stuck : op2L g x .stuck = .stuck := rfl
@[simp] theorem op2L_ite {o o' : Out D} : op2L g x (if p then o else o') = if p then op2L g x o else op2L g x o' := by split <;> rfl
/-! tests -/
def tstK (o : Out D) : Out Bool := Out.bind o fun x => lift (toB x)
@[simp] theorem tst_ap : tst f ρ = tstK (f ρ) := rfl
@[simp] theorem opT_ap : opT g f1 f2 ρ = tstK (op2 g f1 f2 ρ) := rfl
@[simp] theorem tstK_ok : tstK (.ok (.bool b) ρ) = .ok b ρ := rfl
@[simp] theorem tstK_ite {o o' : Out D} : tstK (if p then o else o') = if p then tstK o else tstK o' := by split <;> rfl
def andTK (t2 : MM Bool) (o : Out Bool) : Out Bool := Out.bind o fun b => if b = true then t2 else MM.pure false
def orTK (t2 : MM Bool) (o : Out Bool) : Out Bool := Out.bind o fun b => if b = true then MM.pure true else t2
def notTK (o : Out Bool) : Out Bool := Out.bind o fun b => MM.pure (!b)
@[simp] theorem andT_ap : andT t1 t2 ρ = andTK t2 (t1 ρ) := rfl
@[simp] theorem orT_ap : orT t1 t2 ρ = orTK t2 (t1 ρ) := rfl
@[simp] theorem notT_ap : notT t ρ = notTK (t ρ) := rfl
@[simp] theorem andTK_ok : andTK t2 (.ok b ρ) = if b = true then t2 ρ else .ok false ρ := by cases b <;> rfl
@[simp] theorem orTK_ok : orTK t2 (.ok b ρ) = if b = true then .ok true ρ else t2 ρ := by cases b <;> rfl
@[simp] theorem notTK_ok : notTK (.ok b ρ) = .ok (!b) ρ := rfl
@[simp] theorem andTK_ite {o o' : Out Bool} : andTK t2 (if p then o else o') = if p then andTK t2 o else andTK t2 o' := by split <;> rfl
@[simp] theorem orTK_ite {o o' : Out Bool} : orTK t2 (if p then o else o') = if p then orTK t2 o else orTK t2 o' := by split <;> rfl
@[simp] theorem notTK_ite {o o' : Out Bool} : notTK (if p then o else o') = if p then notTK o else notTK o' := by split <;> rfl
@[simp] theorem ite_okB : (if b = true then (Out.ok b' ρ : Out Bool) else .ok false ρ) = .ok (b && b') ρ := by cases b <;> rfl
@[simp] theorem ite_okB2 : (if b = true then (Out.ok true ρ : Out Bool) else .ok b' ρ) = .ok (b || b') ρ := by cases b <;> rfl
@[simp] theorem ite_okD : (if b = true then (Out.ok (.bool b') ρ : Out D) else .ok (.bool false) ρ) = .ok (.bool (b && b')) ρ := by cases b <;> rfl
@[simp] theorem ite_okD2 : (if b = true then (Out.ok (.bool true) ρ : Out D) else .ok (.bool b') ρ) = .ok (.bool (b || b')) ρ := by cases b <;> rfl
/-! and, or, not as values -/
def andK (f2 : MM D) (o : Out D) : Out D := Out.bind o fun x => match x with
  | .bool true => f2
  | .bool false => MM.pure (.bool false)
  | _ => stuck
def orK (f2 : MM D) (o : Out D) : Out D := Out.bind o fun x => match x with
  | .bool true => MM.pure (.bool true)
  | .bool false => f2
  | _ => stuck
def notK (o : Out D) : Out D := Out.bind o fun x => match x with
  | .bool b => MM.pure (.bool !b)
  | _ => stuck
@[simp] theorem andV_ap : andV f1 f2 ρ = andK f2 (f1 ρ) := rfl
@[simp] theorem orV_ap : orV f1 f2 ρ = orK f2 (f1 ρ) := rfl
@[simp] theorem notV_ap : notV f1 ρ = notK (f1 ρ) := rfl
@[simp] theorem andK_ok : andK f2 (.ok (.bool b) ρ) = if b = true then f2 ρ else .ok (.bool false) ρ := by cases b <;> rfl
@[simp] theorem orK_ok : orK f2 (.ok (.bool b) ρ) = if b = true then .ok (.bool true) ρ else f2 ρ := by cases b <;> rfl
@[simp] theorem notK_ok : notK (.ok (.bool b) ρ) = .ok (.bool !b) ρ := rfl
@[simp] theorem andK_ite {o o' : Out D} : andK f2 (if p then o else o') = if p then andK f2 o else andK f2 o' := by split <;> rfl
@[simp] theorem orK_ite {o o' : Out D} : orK f2 (if p then o else o') = if p then orK f2 o else orK f2 o' := by split <;> rfl
@[simp] theorem notK_ite {o o' : Out D} : notK (if p then o else o') = if p then notK o else notK o' := by split <;> rfl
def chainA (g g' : D → D → Res D) (f2 f3 : MM D) (o : Out D) : Out D := Out.bind o fun x => MM.bind f2 fun y => MM.bind (lift (g x y)) fun z => match z with
  | .bool true => MM.bind f3 fun u => lift (g' y u)
  | .bool false => MM.pure (.bool false)
  | _ => stuck
def chainB (g g' : D → D → Res D) (f3 : MM D) (x : D) (o : Out D) : Out D := Out.bind o fun y => MM.bind (lift (g x y)) fun z => match z with
  | .bool true => MM.bind f3 fun u => lift (g' y u)
  | .bool false => MM.pure (.bool false)
  | _ => stuck
def chainC (g' : D → D → Res D) (f3 : MM D) (y : D) (o : Out D) : Out D := Out.bind o fun z => match z with
  | .bool true => MM.bind f3 fun u => lift (g' y u)
  | .bool false => MM.pure (.bool false)
  | _ => stuck
@[simp] theorem chainV_ap : chainV g g' f1 f2 f3 ρ = chainA g g' f2 f3 (f1 ρ) := rfl
@[simp] theorem chainA_ok : chainA g g' f2 f3 (.ok x ρ) = chainB g g' f3 x (f2 ρ) := rfl
@[simp] theorem chainB_ok : chainB g g' f3 x (.ok y ρ) = chainC g' f3 y (lift (g x y) ρ) := rfl
@[simp] theorem chainC_ok : chainC g' f3 y (.ok (.bool b) ρ) = if b = true then op2L g' y (f3 ρ) else .ok (.bool false) ρ := by cases b <;> rfl
def ifEK (f1 f2 : MM D) (o : Out Bool) : Out D := Out.bind o fun b => if b = true then f1 else f2
@[simp] theorem ifE_ap : ifE t f1 f2 ρ = ifEK f1 f2 (t ρ) := rfl
@[simp] theorem ifEK_ok : ifEK f1 f2 (.ok b ρ) = if b = true then f1 ρ else f2 ρ := by cases b <;> rfl
@[simp] theorem ifEK_ite {o o' : Out Bool} : ifEK f1 f2 (if p then o else o') = if p then ifEK f1 f2 o else ifEK f1 f2 o' := by split <;> rfl
/-! arguments -/
def consK (g : MM (List D)) (o : Out D) : Out (List D) := Out.bind o fun x => MM.bind g fun xs => MM.pure (x :: xs)
def consJ (x : D) (o : Out (List D)) : Out (List D) := Out.bind o fun xs => MM.pure (x :: xs)
variable {ga : MM (List D)} {xs ys : List D}
@[simp] theorem consA_ap : consA f ga ρ = consK ga (f ρ) := rfl
@[simp] theorem consK_ok : consK ga (.ok x ρ) = consJ x (ga ρ) := rfl
@[simp] theorem consK_stuck : consK ga .stuck = .stuck := rfl
@[simp] theorem consK_ite {o o' : Out D} : consK ga (if p then o else o') = if p then consK ga o else consK ga o' := by split <;> rfl
@[simp] theorem consJ_ok : consJ x (.ok xs ρ) = .ok (x :: xs) ρ := rfl
@[simp] theorem consJ_stuck : consJ x .stuck = .stuck := rfl
@[simp] theorem consJ_ite {o o' : Out (List D)} : consJ x (if p then o else o') = if p then consJ x o else consJ x o' := by split <;> rfl
def callK (fm : List D → Res D) (o : Out (List D)) : Out D := Out.bind o fun ds => lift (fm ds)
variable {fm : List D → Res D}
@[simp] theorem callE_ap : callE fm ga ρ = callK fm (ga ρ) := rfl
@[simp] theorem callK_ok : callK fm (.ok xs ρ) = lift (fm xs) ρ := rfl
@[simp] theorem callK_stuck : callK fm .stuck = .stuck := rfl
@[simp] theorem callK_ite {o o' : Out (List D)} : callK fm (if p then o else o') = if p then callK fm o else callK fm o' := by split <;> rfl
@[simp] theorem isiE_ap {ty : D → Bool} : isiE ty f ρ = Out.bind (f ρ) (isiK ty) := rfl
@[simp] theorem isiK_none {ty : D → Bool} : isiK ty .none ρ = .ok (.bool (ty .none)) ρ := rfl
@[simp] theorem isiK_bool {ty : D → Bool} {q : Bool} : isiK ty (.bool q) ρ = .ok (.bool (ty (.bool q))) ρ := rfl
@[simp] theorem isiK_int {ty : D → Bool} {q : Int} : isiK ty (.int q) ρ = .ok (.bool (ty (.int q))) ρ := rfl
@[simp] theorem isiK_str {ty : D → Bool} {q : Str} : isiK ty (.str q) ρ = .ok (.bool (ty (.str q))) ρ := rfl
@[simp] theorem isiK_list {ty : D → Bool} {q : List D} : isiK ty (.list q) ρ = .ok (.bool (ty (.list q))) ρ := rfl
@[simp] theorem isiK_tuple {ty : D → Bool} {q : List D} : isiK ty (.tuple q) ρ = .ok (.bool (ty (.tuple q))) ρ := rfl
@[simp] theorem isiK_dict {ty : D → Bool} {q : List (D × D)} : isiK ty (.dict q) ρ = .ok (.bool (ty (.dict q))) ρ := rfl
theorem isiK_of {ty : D → Bool} {d : D} (h : isLoc d = false) : isiK ty d ρ = .ok (.bool (ty d)) ρ := by unfold isiK; rw [if_neg (by rw [h]; exact Bool.false_ne_true)]; rfl
/-! statements -/
def seqK (s2 : MM Fl) (o : Out Fl) : Out Fl := Out.bind o fun fl => match fl with
  | .nx => s2
  | o => MM.pure o
@[simp] theorem seqS_ap : seqS s1 s2 ρ = seqK s2 (s1 ρ) := rfl
@[simp] theorem seqK_nx : seqK s2 (.ok .nx ρ) = s2 ρ := rfl
@[simp] theorem seqK_rt : seqK s2 (.ok (.rt d) ρ) = .ok (.rt d) ρ := rfl
@[simp] theorem seqK_bk : seqK s2 (.ok .bk ρ) = .ok .bk ρ := rfl
@[simp] theorem seqK_ct : seqK s2 (.ok .ct ρ) = .ok .ct ρ := rfl
@[simp] theorem seqK_exn : seqK s2 (.exn e ρ) = .exn e ρ := rfl
@[simp] theorem seqK_stuck : seqK s2 .stuck = .stuck := rfl
@[simp] theorem seqK_ite {o o' : Out Fl} : seqK s2 (if p then o else o') = if p then seqK s2 o else seqK s2 o' := by split <;> rfl
def ifSK (s1 s2 : MM Fl) (o : Out Bool) : Out Fl := Out.bind o fun b => if b = true then s1 else s2
@[simp] theorem ifS_ap : ifS t s1 s2 ρ = ifSK s1 s2 (t ρ) := rfl
@[simp] theorem ifSK_ok : ifSK s1 s2 (.ok b ρ) = if b = true then s1 ρ else s2 ρ := by cases b <;> rfl
@[simp] theorem ifSK_ite {o o' : Out Bool} : ifSK s1 s2 (if p then o else o') = if p then ifSK s1 s2 o else ifSK s1 s2 o' := by split <;> rfl
def retK (o : Out D) : Out Fl := Out.bind o fun d => MM.pure (.rt d)
@[simp] theorem retS_ap : retS f ρ = retK (f ρ) := rfl
@[simp] theorem retK_ok : retK (.ok x ρ) = .ok (.rt x) ρ := rfl
@[simp] theorem retK_exn : retK (.exn e ρ) = .exn e ρ := rfl
@[simp] theorem retK_stuck : retK .stuck = .stuck := rfl
@[simp] theorem retK_ite {o o' : Out D} : retK (if p then o else o') = if p then retK o else retK o' := by split <;> rfl
def exprK (o : Out D) : Out Fl := Out.bind o fun _ => MM.pure .nx
@[simp] theorem exprS_ap : exprS f ρ = exprK (f ρ) := rfl
@[simp] theorem exprK_ok : exprK (.ok x ρ) = .ok .nx ρ := rfl
@[simp] theorem exprK_exn : exprK (.exn e ρ) = .exn e ρ := rfl
@[simp] theorem exprK_stuck : exprK .stuck = .stuck := rfl
@[simp] theorem exprK_ite {o o' : Out D} : exprK (if p then o else o') = if p then exprK o else exprK o' := by split <;> rfl
def stoK : Option MSt → Out Fl
  | some ρ' => .ok .nx ρ'
  | none => .stuck
@[simp] theorem stoK_some : stoK (some ρ) = .ok .nx ρ := rfl
@[simp] theorem stoK_ite {o o' : Option MSt} : stoK (if p then o else o') = if p then stoK o else stoK o' := by split <;> rfl
def asgK (gt : D → MSt → Option MSt) (o : Out D) : Out Fl := Out.bind o fun d ρ => stoK (gt d ρ)
variable {gt : D → MSt → Option MSt}
@[simp] theorem asgS_ap : asgS f gt ρ = asgK gt (f ρ) := by unfold asgS asgK stoK; rfl
@[simp] theorem asgK_ok : asgK gt (.ok x ρ) = stoK (gt x ρ) := rfl
@[simp] theorem asgK_exn : asgK gt (.exn e ρ) = .exn e ρ := rfl
@[simp] theorem asgK_stuck : asgK gt .stuck = .stuck := rfl
@[simp] theorem asgK_ite {o o' : Out D} : asgK gt (if p then o else o') = if p then asgK gt o else asgK gt o' := by split <;> rfl
@[simp] theorem setD_ap : setD i x ρ = if i + 1 < ρ.length then some (ρ.set i (some (.d x))) else none := rfl
@[simp] theorem setT_ap {is : List Nat} : setT is (.tuple xs) ρ = setMany is xs ρ := rfl
@[simp] theorem setMany_nil : setMany [] [] ρ = some ρ := rfl
@[simp] theorem setMany_cons {is : List Nat} : setMany (i :: is) (x :: xs) ρ = if i + 1 < ρ.length then setMany is xs (ρ.set i (some (.d x))) else none := rfl
/-! loops -/
def forG (gt : D → MSt → Option MSt) (s : MM Fl) (xs : List D) : Option MSt → Out Fl
  | none => .stuck
  | some ρ1 => match s ρ1 with
    | .ok .nx ρ2 => forD gt s xs ρ2
    | .ok .ct ρ2 => forD gt s xs ρ2
    | .ok .bk ρ2 => .ok .nx ρ2
    | .ok (.rt d) ρ2 => .ok (.rt d) ρ2
    | .exn y ρ2 => .exn y ρ2
    | .stuck => .stuck
def forK (gt : D → MSt → Option MSt) (s : MM Fl) (xs : List D) : Out Fl → Out Fl
  | .ok .nx ρ2 => forD gt s xs ρ2
  | .ok .ct ρ2 => forD gt s xs ρ2
  | .ok .bk ρ2 => .ok .nx ρ2
  | .ok (.rt d) ρ2 => .ok (.rt d) ρ2
  | .exn y ρ2 => .exn y ρ2
  | .stuck => .stuck
@[simp] theorem forD_nil : forD gt s [] ρ = .ok .nx ρ := rfl
@[simp] theorem forD_cons : forD gt s (x :: xs) ρ = forG gt s xs (gt x ρ) := rfl
@[simp] theorem forG_some : forG gt s xs (some ρ) = forK gt s xs (s ρ) := rfl
@[simp] theorem forG_ite {o o' : Option MSt} : forG gt s xs (if p then o else o') = if p then forG gt s xs o else forG gt s xs o' := by split <;> rfl
@[simp] theorem forK_nx : forK gt s xs (.ok .nx ρ) = forD gt s xs ρ := rfl
@[simp] theorem forK_ct : forK gt s xs (.ok .ct ρ) = forD gt s xs ρ := rfl
@[simp] theorem forK_bk : forK gt s xs (.ok .bk ρ) = .ok .nx ρ := rfl
@[simp] theorem forK_rt : forK gt s xs (.ok (.rt d) ρ) = .ok (.rt d) ρ := rfl
@[simp] theorem forK_exn : forK gt s xs (.exn e ρ) = .exn e ρ := rfl
@[simp] theorem forK_stuck : forK gt s xs .stuck = .stuck := rfl
@[simp] theorem forK_ite {o o' : Out Fl} : forK gt s xs (if p then o else o') = if p then forK gt s xs o else forK gt s xs o' := by split <;> rfl
def iterK (o : Out D) : Out (List D) := Out.bind o fun x => lift (iterAll x)
@[simp] theorem iterA_ap : iterA f ρ = iterK (f ρ) := rfl
@[simp] theorem iterK_ok : iterK (.ok x ρ) = lift (iterAll x) ρ := rfl
@[simp] theorem iterAll_list : iterAll (.list xs) = .ok xs := rfl
@[simp] theorem iterAll_tuple : iterAll (.tuple xs) = .ok xs := rfl
@[simp] theorem iterAll_str {z : Str} : iterAll (.str z) = .ok (charsD z) := rfl
@[simp] theorem iterAll_dict {kvs : List (D × D)} : iterAll (.dict kvs) = .ok (keysD kvs) := rfl
@[simp] theorem keysD_nil : keysD [] = [] := rfl
@[simp] theorem keysD_cons {kv : D × D} {kvs : List (D × D)} : keysD (kv :: kvs) = kv.1 :: keysD kvs := rfl
/-! comprehensions -/
variable {os : List Nat} {el : MM D} {acc : List D}
def compG (os : List Nat) (gt : D → MSt → Option MSt) (t : MM Bool) (el : MM D) (xs acc : List D) : Option MSt → Out (List D)
  | none => .stuck
  | some ρ1 => match t ρ1 with
      | .ok true ρ2 => match el ρ2 with
        | .ok y ρ3 => if acc.length < sizeLine then compD os gt t el xs (acc ++ [y]) ρ3 else .stuck
        | _ => .stuck
      | .ok false ρ2 => compD os gt t el xs acc ρ2
      | _ => .stuck
def compT (os : List Nat) (gt : D → MSt → Option MSt) (t : MM Bool) (el : MM D) (xs acc : List D) : Out Bool → Out (List D)
  | .ok true ρ2 => match el ρ2 with
        | .ok y ρ3 => if acc.length < sizeLine then compD os gt t el xs (acc ++ [y]) ρ3 else .stuck
        | _ => .stuck
  | .ok false ρ2 => compD os gt t el xs acc ρ2
  | _ => .stuck
def compE (os : List Nat) (gt : D → MSt → Option MSt) (t : MM Bool) (el : MM D) (xs acc : List D) : Out D → Out (List D)
  | .ok y ρ3 => if acc.length < sizeLine then compD os gt t el xs (acc ++ [y]) ρ3 else .stuck
  | _ => .stuck
@[simp] theorem compD_nil : compD os gt t el [] acc ρ = .ok acc ρ := rfl
@[simp] theorem compD_cons : compD os gt t el (x :: xs) acc ρ = compG os gt t el xs acc (gt x (wipeM ρ os)) := by
  show (match gt x (wipeM ρ os) with | none => Out.stuck | some ρ1 => _) = _
  cases gt x (wipeM ρ os) <;> rfl
@[simp] theorem compG_some : compG os gt t el xs acc (some ρ) = compT os gt t el xs acc (t ρ) := rfl
@[simp] theorem compG_ite {o o' : Option MSt} : compG os gt t el xs acc (if p then o else o') = if p then compG os gt t el xs acc o else compG os gt t el xs acc o' := by split <;> rfl
@[simp] theorem compT_ok : compT os gt t el xs acc (.ok b ρ) = if b = true then compE os gt t el xs acc (el ρ) else compD os gt t el xs acc ρ := by cases b <;> rfl
@[simp] theorem compE_ok : compE os gt t el xs acc (.ok y ρ) = if acc.length < sizeLine then compD os gt t el xs (acc ++ [y]) ρ else .stuck := rfl
@[simp] theorem compE_ite {o o' : Out D} : compE os gt t el xs acc (if p then o else o') = if p then compE os gt t el xs acc o else compE os gt t el xs acc o' := by split <;> rfl
def compLK (os : List Nat) (ρ : MSt) : Out (List D) → Out D
  | .ok ys ρe => .ok (.list ys) (restore os ρ ρe)
  | _ => .stuck
@[simp] theorem compL_ap : compL os gt t el xs ρ = compLK os ρ (compD os gt t el xs [] ρ) := rfl
@[simp] theorem compLK_ok {ρe : MSt} : compLK os ρ (.ok xs ρe) = .ok (.list xs) (restore os ρ ρe) := rfl
@[simp] theorem compLK_ite {o o' : Out (List D)} : compLK os ρ (if p then o else o') = if p then compLK os ρ o else compLK os ρ o' := by split <;> rfl
@[simp] theorem wipeM_nil : wipeM ρ [] = ρ := rfl
@[simp] theorem wipeM_cons {v : Nat} {vs : List Nat} : wipeM ρ (v :: vs) = (wipeM ρ vs).set v none := rfl
variable {ek ev : MM D} {kvs : List (D × D)}
def compKG (os : List Nat) (gt : D → MSt → Option MSt) (t : MM Bool) (ek ev : MM D) (xs : List D) (kvs : List (D × D)) : Option MSt → Out (List (D × D))
  | none => .stuck
  | some ρ1 => match t ρ1 with
      | .ok true ρ2 => match ek ρ2 with
        | .ok k ρ3 => match ev ρ3 with
          | .ok y ρ4 => if kvs.length < sizeLine ∧ (keyOf k).isSome = true then compK os gt t ek ev xs (putD kvs k y) ρ4 else .stuck
          | _ => .stuck
        | _ => .stuck
      | .ok false ρ2 => compK os gt t ek ev xs kvs ρ2
      | _ => .stuck
def compKT (os : List Nat) (gt : D → MSt → Option MSt) (t : MM Bool) (ek ev : MM D) (xs : List D) (kvs : List (D × D)) : Out Bool → Out (List (D × D))
  | .ok true ρ2 => match ek ρ2 with
        | .ok k ρ3 => match ev ρ3 with
          | .ok y ρ4 => if kvs.length < sizeLine ∧ (keyOf k).isSome = true then compK os gt t ek ev xs (putD kvs k y) ρ4 else .stuck
          | _ => .stuck
        | _ => .stuck
  | .ok false ρ2 => compK os gt t ek ev xs kvs ρ2
  | _ => .stuck
def compKE (os : List Nat) (gt : D → MSt → Option MSt) (t : MM Bool) (ek ev : MM D) (xs : List D) (kvs : List (D × D)) : Out D → Out (List (D × D))
  | .ok k ρ3 => match ev ρ3 with
          | .ok y ρ4 => if kvs.length < sizeLine ∧ (keyOf k).isSome = true then compK os gt t ek ev xs (putD kvs k y) ρ4 else .stuck
          | _ => .stuck
  | _ => .stuck
def compKV (os : List Nat) (gt : D → MSt → Option MSt) (t : MM Bool) (ek ev : MM D) (xs : List D) (kvs : List (D × D)) (k : D) : Out D → Out (List (D × D))
  | .ok y ρ4 => if kvs.length < sizeLine ∧ (keyOf k).isSome = true then compK os gt t ek ev xs (putD kvs k y) ρ4 else .stuck
  | _ => .stuck
@[simp] theorem compK_nil : compK os gt t ek ev [] kvs ρ = .ok kvs ρ := rfl
@[simp] theorem compK_cons : compK os gt t ek ev (x :: xs) kvs ρ = compKG os gt t ek ev xs kvs (gt x (wipeM ρ os)) := by
  show (match gt x (wipeM ρ os) with | none => Out.stuck | some ρ1 => _) = _
  cases gt x (wipeM ρ os) <;> rfl
@[simp] theorem compKG_some : compKG os gt t ek ev xs kvs (some ρ) = compKT os gt t ek ev xs kvs (t ρ) := rfl
@[simp] theorem compKG_ite {o o' : Option MSt} : compKG os gt t ek ev xs kvs (if p then o else o') = if p then compKG os gt t ek ev xs kvs o else compKG os gt t ek ev xs kvs o' := by split <;> rfl
@[simp] theorem compKT_ok : compKT os gt t ek ev xs kvs (.ok b ρ) = if b = true then compKE os gt t ek ev xs kvs (ek ρ) else compK os gt t ek ev xs kvs ρ := by cases b <;> rfl
@[simp] theorem compKE_ok : compKE os gt t ek ev xs kvs (.ok x ρ) = compKV os gt t ek ev xs kvs x (ev ρ) := rfl
@[simp] theorem compKV_ok : compKV os gt t ek ev xs kvs x (.ok y ρ) = if kvs.length < sizeLine ∧ (keyOf x).isSome = true then compK os gt t ek ev xs (putD kvs x y) ρ else .stuck := rfl
def compOK (os : List Nat) (ρ : MSt) : Out (List (D × D)) → Out S
  | .ok ys ρe => .ok (.od ys) (restore os ρ ρe)
  | _ => .stuck
@[simp] theorem compO_ap : compO os gt t ek ev xs ρ = compOK os ρ (compK os gt t ek ev xs [] ρ) := rfl
@[simp] theorem compOK_ok {ρe : MSt} : compOK os ρ (.ok kvs ρe) = .ok (.od kvs) (restore os ρ ρe) := rfl
/-! restoring: place by place -/
def restA (os : List Nat) : Nat → MSt → MSt → MSt
  | _, [], _ => []
  | i, o :: ρ, ρ' => (if i ∈ os then keepd (some o) else (ρ'.head?).getD none) :: restA os (i + 1) ρ ρ'.tail
theorem restA_eq : ∀ (ρ ρ' : MSt) (k : Nat), restA os k ρ ρ' = (List.range ρ.length).map fun (i : Nat) => if i + k ∈ os then keepd ρ[i]? else (ρ'[i]?).getD none
  | [], _, _ => rfl
  | o :: ρ, ρ', k => by
    rw [List.length_cons, List.range_succ_eq_map, List.map_cons, List.map_map]
    show _ :: _ = _
    congr 1
    · simp only [Nat.zero_add, List.getElem?_cons_zero, List.head?_eq_getElem?]
    · rw [restA_eq ρ ρ'.tail (k + 1)]
      apply List.map_congr_left
      intro i _
      simp only [Function.comp, List.getElem?_cons_succ, List.getElem?_tail]
      have e : i + (k + 1) = Nat.succ i + k := by omega
      rw [e]
@[simp] theorem restore_ap {ρ' : MSt} : restore os ρ ρ' = restA os 0 ρ ρ' := by
  rw [restA_eq]
  unfold restore
  rfl
@[simp] theorem restA_nil {k : Nat} {ρ' : MSt} : restA os k [] ρ' = [] := rfl
@[simp] theorem restA_cons {k : Nat} {o o' : Option S} {ρ' : MSt} : restA os k (o :: ρ) (o' :: ρ') = (if k ∈ os then keepd (some o) else o') :: restA os (k + 1) ρ ρ' := rfl
@[simp] theorem keepd_d : keepd (some (some (.d x))) = some (.d x) := rfl
@[simp] theorem keepd_none : keepd (some none) = none := rfl
end
end Mi
set_option Elab.async false
set_option linter.all false
set_option maxRecDepth 100000
set_option maxHeartbeats 4000000
namespace Mi
open PySem L2
section
variable {ρ : MSt} {f f1 f2 f3 : MM D} {i j : Int} {k n m : Nat} {x y z d : D} {b b' : Bool} {p : Prop} [Decidable p] {e : Exn} {xs ys : List D} {kvs : List (D × D)} {u v : Str} {ga : MM (List D)}
@[simp] theorem ite_pB : (if p then (Out.ok b' ρ : Out Bool) else .ok false ρ) = .ok (decide p && b') ρ := by split <;> simp_all
@[simp] theorem ite_pB2 : (if p then (Out.ok true ρ : Out Bool) else .ok b' ρ) = .ok (decide p || b') ρ := by split <;> simp_all
@[simp] theorem ite_pD : (if p then (Out.ok (.bool b') ρ : Out D) else .ok (.bool false) ρ) = .ok (.bool (decide p && b')) ρ := by split <;> simp_all
@[simp] theorem ite_pD2 : (if p then (Out.ok (.bool true) ρ : Out D) else .ok (.bool b') ρ) = .ok (.bool (decide p || b')) ρ := by split <;> simp_all
@[simp] theorem ite_pR : (if p then (Res.ok (.bool b') : Res D) else .ok (.bool false)) = .ok (.bool (decide p && b')) := by split <;> simp_all
@[simp] theorem ite_pR2 : (if p then (Res.ok (.bool true) : Res D) else .ok (.bool b')) = .ok (.bool (decide p || b')) := by split <;> simp_all
/-! ints, texts, lists -/
@[simp] theorem dAdd_int : dAdd (.int i) (.int j) = .ok (.int (i + j)) := rfl
@[simp] theorem dAdd_str : dAdd (.str u) (.str v) = if u.length + v.length ≤ sizeLine then .ok (.str (u ++ v)) else .stuck := rfl
@[simp] theorem dAdd_list : dAdd (.list xs) (.list ys) = if xs.length + ys.length ≤ sizeLine then .ok (.list (xs ++ ys)) else .stuck := rfl
@[simp] theorem dAdd_tuple : dAdd (.tuple xs) (.tuple ys) = if xs.length + ys.length ≤ sizeLine then .ok (.tuple (xs ++ ys)) else .stuck := rfl
@[simp] theorem dSub_int : dSub (.int i) (.int j) = .ok (.int (i - j)) := rfl
@[simp] theorem dMul_int : dMul (.int i) (.int j) = if mulOk i j = true then .ok (.int (i * j)) else .stuck := rfl
@[simp] theorem dFdiv_int : dFdiv (.int i) (.int j) = if 0 < j ∧ j.natAbs.log2 < 9000 then .ok (.int (i / j)) else .stuck := rfl
@[simp] theorem dMod_int : dMod (.int i) (.int j) = if 0 < j then .ok (.int (i % j)) else .stuck := rfl
@[simp] theorem dPow_int : dPow (.int i) (.int j) = if 0 ≤ j ∧ j ≤ 1000000 ∧ i.natAbs < 2 ^ 64 then .ok (.int (i ^ j.toNat)) else .stuck := rfl
@[simp] theorem dLe_int : dLe (.int i) (.int j) = .ok (.bool (decide (i ≤ j))) := rfl
@[simp] theorem dGt_int : dGt (.int i) (.int j) = .ok (.bool (decide (j < i))) := rfl
@[simp] theorem dGe_int : dGe (.int i) (.int j) = .ok (.bool (decide (j ≤ i))) := rfl
@[simp] theorem dLt_int : dLt (.int i) (.int j) = .ok (.bool (decide (i < j))) := rfl
def strLt (u v : Str) : Bool := decide (u.cps.toList < v.cps.toList)
@[simp] theorem dLt_str : dLt (.str u) (.str v) = .ok (.bool (strLt u v)) := rfl
@[simp] theorem dEq_ap : dEq x y = if eqOk x = true ∧ eqOk y = true then .ok (.bool (D.eqv x y)) else .stuck := rfl
@[simp] theorem dNe_ap : dNe x y = if eqOk x = true ∧ eqOk y = true then .ok (.bool (!D.eqv x y)) else .stuck := rfl
@[simp] theorem dIs_none : dIs x .none = .ok (.bool (isNone x)) := by cases x <;> rfl
@[simp] theorem dIs_bool : dIs (.bool b) (.bool b') = .ok (.bool (decide (b = b'))) := rfl
@[simp] theorem dIsNot_none : dIsNot x .none = .ok (.bool (!isNone x)) := by cases x <;> rfl
@[simp] theorem dIsNot_bool : dIsNot (.bool b) (.bool b') = .ok (.bool (!decide (b = b'))) := rfl
@[simp] theorem isNone_none : isNone .none = true := rfl
@[simp] theorem isNone_bool : isNone (.bool b) = false := rfl
@[simp] theorem isNone_int : isNone (.int i) = false := rfl
@[simp] theorem isNone_str : isNone (.str u) = false := rfl
@[simp] theorem isNone_list : isNone (.list xs) = false := rfl
@[simp] theorem isNone_tuple : isNone (.tuple xs) = false := rfl
@[simp] theorem isNone_dict : isNone (.dict kvs) = false := rfl
theorem eqOk_eq : eqOk d = (noDict d && (d.canLay0 && decide (d.depth ≤ 64))) := rfl
@[simp] theorem dIx_list : dIx (.list xs) (.int i) = (match atI xs i with | some d => .ok d | none => .stuck) := rfl
@[simp] theorem dIx_tuple : dIx (.tuple xs) (.int i) = (match atI xs i with | some d => .ok d | none => .stuck) := rfl
@[simp] theorem dIx_dict : dIx (.dict kvs) x = (match keyOf x with | some _ => (match valAt kvs x with | some d => .ok d | none => .stuck) | none => .stuck) := by cases x <;> rfl
@[simp] theorem atI_0 : atI (x :: xs) 0 = some x := atI_nat (j := 0) rfl
@[simp] theorem atI_1 : atI (x :: y :: xs) 1 = some y := atI_nat (j := 1) rfl
@[simp] theorem atI_2 : atI (x :: y :: z :: xs) 2 = some z := atI_nat (j := 2) rfl
@[simp] theorem keyOf_int : keyOf (.int i) = some (.inl i) := rfl
@[simp] theorem keyOf_str : keyOf (.str u) = some (.inr u) := rfl
@[simp] theorem eqv_str : D.eqv (.str u) (.str v) = decide (u = v) := by
  show PyData.eqv (.str u) (.str v) = _
  rw [PyData.eqv, Bool.beq_eq_decide_eq]
@[simp] theorem eqv_int : D.eqv (.int i) (.int j) = decide (i = j) := by
  show PyData.eqv (.int i) (.int j) = _
  rw [PyData.eqv, Bool.beq_eq_decide_eq]
@[simp] theorem eqv_bool : D.eqv (.bool b) (.bool b') = decide (b = b') := by
  show PyData.eqv (.bool b) (.bool b') = _
  rw [PyData.eqv, Bool.beq_eq_decide_eq]
@[simp] theorem eqv_tuple : D.eqv (.tuple xs) (.tuple ys) = D.eqvAll xs ys := by
  show PyData.eqv (.tuple (pys xs)) (.tuple (pys ys)) = _
  rw [PyData.eqv]; rfl
@[simp] theorem eqv_list : D.eqv (.list xs) (.list ys) = D.eqvAll xs ys := by
  show PyData.eqv (.list (pys xs)) (.list (pys ys)) = _
  rw [PyData.eqv]; rfl
@[simp] theorem eqv_none : D.eqv .none .none = true := by
  show PyData.eqv .none .none = _
  rw [PyData.eqv]
@[simp] theorem eqv_none_bool : D.eqv .none (.bool b) = false := by
  show PyData.eqv .none (.bool b) = _
  rw [PyData.eqv] <;> simp
@[simp] theorem eqv_none_int : D.eqv .none (.int i) = false := by
  show PyData.eqv .none (.int i) = _
  rw [PyData.eqv] <;> simp
@[simp] theorem eqv_none_str : D.eqv .none (.str u) = false := by
  show PyData.eqv .none (.str u) = _
  rw [PyData.eqv] <;> simp
@[simp] theorem eqv_none_list : D.eqv .none (.list xs) = false := by
  show PyData.eqv .none (.list (pys xs)) = _
  rw [PyData.eqv] <;> simp
@[simp] theorem eqv_none_tuple : D.eqv .none (.tuple ys) = false := by
  show PyData.eqv .none (.tuple (pys ys)) = _
  rw [PyData.eqv] <;> simp
@[simp] theorem eqv_none_dict : D.eqv .none (.dict kvs) = false := by
  show PyData.eqv .none (.dict (pykv kvs)) = _
  rw [PyData.eqv] <;> simp
@[simp] theorem eqv_bool_none : D.eqv (.bool b) .none = false := by
  show PyData.eqv (.bool b) .none = _
  rw [PyData.eqv] <;> simp
@[simp] theorem eqv_bool_str : D.eqv (.bool b) (.str u) = false := by
  show PyData.eqv (.bool b) (.str u) = _
  rw [PyData.eqv] <;> simp
@[simp] theorem eqv_bool_list : D.eqv (.bool b) (.list xs) = false := by
  show PyData.eqv (.bool b) (.list (pys xs)) = _
  rw [PyData.eqv] <;> simp
@[simp] theorem eqv_bool_tuple : D.eqv (.bool b) (.tuple ys) = false := by
  show PyData.eqv (.bool b) (.tuple (pys ys)) = _
  rw [PyData.eqv] <;> simp
@[simp] theorem eqv_bool_dict : D.eqv (.bool b) (.dict kvs) = false := by
  show PyData.eqv (.bool b) (.dict (pykv kvs)) = _
  rw [PyData.eqv] <;> simp
@[simp] theorem eqv_int_none : D.eqv (.int i) .none = false := by
  show PyData.eqv (.int i) .none = _
  rw [PyData.eqv] <;> simp
@[simp] theorem eqv_int_str : D.eqv (.int i) (.str u) = false := by
  show PyData.eqv (.int i) (.str u) = _
  rw [PyData.eqv] <;> simp
@[simp] theorem eqv_int_list : D.eqv (.int i) (.list xs) = false := by
  show PyData.eqv (.int i) (.list (pys xs)) = _
  rw [PyData.eqv] <;> simp
@[simp] theorem eqv_int_tuple : D.eqv (.int i) (.tuple ys) = false := by
  show PyData.eqv (.int i) (.tuple (pys ys)) = _
  rw [PyData.eqv] <;> simp
@[simp] theorem eqv_int_dict : D.eqv (.int i) (.dict kvs) = false := by
  show PyData.eqv (.int i) (.dict (pykv kvs)) = _
  rw [PyData.eqv] <;> simp
@[simp] theorem eqv_str_none : D.eqv (.str u) .none = false := by
  show PyData.eqv (.str u) .none = _
  rw [PyData.eqv] <;> simp
@[simp] theorem eqv_str_bool : D.eqv (.str u) (.bool b) = false := by
  show PyData.eqv (.str u) (.bool b) = _
  rw [PyData.eqv] <;> simp
@[simp] theorem eqv_str_int : D.eqv (.str u) (.int i) = false := by
  show PyData.eqv (.str u) (.int i) = _
  rw [PyData.eqv] <;> simp
@[simp] theorem eqv_str_list : D.eqv (.str u) (.list xs) = false := by
  show PyData.eqv (.str u) (.list (pys xs)) = _
  rw [PyData.eqv] <;> simp
@[simp] theorem eqv_str_tuple : D.eqv (.str u) (.tuple ys) = false := by
  show PyData.eqv (.str u) (.tuple (pys ys)) = _
  rw [PyData.eqv] <;> simp
@[simp] theorem eqv_str_dict : D.eqv (.str u) (.dict kvs) = false := by
  show PyData.eqv (.str u) (.dict (pykv kvs)) = _
  rw [PyData.eqv] <;> simp
@[simp] theorem eqv_list_none : D.eqv (.list xs) .none = false := by
  show PyData.eqv (.list (pys xs)) .none = _
  rw [PyData.eqv] <;> simp
@[simp] theorem eqv_list_bool : D.eqv (.list xs) (.bool b) = false := by
  show PyData.eqv (.list (pys xs)) (.bool b) = _
  rw [PyData.eqv] <;> simp
@[simp] theorem eqv_list_int : D.eqv (.list xs) (.int i) = false := by
  show PyData.eqv (.list (pys xs)) (.int i) = _
  rw [PyData.eqv] <;> simp
@[simp] theorem eqv_list_str : D.eqv (.list xs) (.str u) = false := by
  show PyData.eqv (.list (pys xs)) (.str u) = _
  rw [PyData.eqv] <;> simp
@[simp] theorem eqv_list_tuple : D.eqv (.list xs) (.tuple ys) = false := by
  show PyData.eqv (.list (pys xs)) (.tuple (pys ys)) = _
  rw [PyData.eqv] <;> simp
@[simp] theorem eqv_list_dict : D.eqv (.list xs) (.dict kvs) = false := by
  show PyData.eqv (.list (pys xs)) (.dict (pykv kvs)) = _
  rw [PyData.eqv] <;> simp
@[simp] theorem eqv_tuple_none : D.eqv (.tuple ys) .none = false := by
  show PyData.eqv (.tuple (pys ys)) .none = _
  rw [PyData.eqv] <;> simp
@[simp] theorem eqv_tuple_bool : D.eqv (.tuple ys) (.bool b) = false := by
  show PyData.eqv (.tuple (pys ys)) (.bool b) = _
  rw [PyData.eqv] <;> simp
@[simp] theorem eqv_tuple_int : D.eqv (.tuple ys) (.int i) = false := by
  show PyData.eqv (.tuple (pys ys)) (.int i) = _
  rw [PyData.eqv] <;> simp
@[simp] theorem eqv_tuple_str : D.eqv (.tuple ys) (.str u) = false := by
  show PyData.eqv (.tuple (pys ys)) (.str u) = _
  rw [PyData.eqv] <;> simp
@[simp] theorem eqv_tuple_list : D.eqv (.tuple ys) (.list xs) = false := by
  show PyData.eqv (.tuple (pys ys)) (.list (pys xs)) = _
  rw [PyData.eqv] <;> simp
@[simp] theorem eqv_tuple_dict : D.eqv (.tuple ys) (.dict kvs) = false := by
  show PyData.eqv (.tuple (pys ys)) (.dict (pykv kvs)) = _
  rw [PyData.eqv] <;> simp
@[simp] theorem eqv_dict_none : D.eqv (.dict kvs) .none = false := by
  show PyData.eqv (.dict (pykv kvs)) .none = _
  rw [PyData.eqv] <;> simp
@[simp] theorem eqv_dict_bool : D.eqv (.dict kvs) (.bool b) = false := by
  show PyData.eqv (.dict (pykv kvs)) (.bool b) = _
  rw [PyData.eqv] <;> simp
@[simp] theorem eqv_dict_int : D.eqv (.dict kvs) (.int i) = false := by
  show PyData.eqv (.dict (pykv kvs)) (.int i) = _
  rw [PyData.eqv] <;> simp
@[simp] theorem eqv_dict_str : D.eqv (.dict kvs) (.str u) = false := by
  show PyData.eqv (.dict (pykv kvs)) (.str u) = _
  rw [PyData.eqv] <;> simp
@[simp] theorem eqv_dict_list : D.eqv (.dict kvs) (.list xs) = false := by
  show PyData.eqv (.dict (pykv kvs)) (.list (pys xs)) = _
  rw [PyData.eqv] <;> simp
@[simp] theorem eqv_dict_tuple : D.eqv (.dict kvs) (.tuple ys) = false := by
  show PyData.eqv (.dict (pykv kvs)) (.tuple (pys ys)) = _
  rw [PyData.eqv] <;> simp
@[simp] theorem eqvAll_nil : D.eqvAll [] [] = true := by
  show PyData.eqvAll [] [] = _
  rw [PyData.eqvAll]
@[simp] theorem eqvAll_cons : D.eqvAll (x :: xs) (y :: ys) = (D.eqv x y && D.eqvAll xs ys) := by
  show PyData.eqvAll (x.py :: pys xs) (y.py :: pys ys) = _
  rw [PyData.eqvAll]; rfl
@[simp] theorem eqvAll_nc : D.eqvAll [] (y :: ys) = false := by
  show PyData.eqvAll [] (y.py :: pys ys) = _
  rw [PyData.eqvAll]
@[simp] theorem eqvAll_cn : D.eqvAll (x :: xs) [] = false := by
  show PyData.eqvAll (x.py :: pys xs) [] = _
  rw [PyData.eqvAll]
/-! built-ins -/
@[simp] theorem dLen_list : dLen [.list xs] = .ok (.int xs.length) := rfl
@[simp] theorem dLen_tuple : dLen [.tuple xs] = .ok (.int xs.length) := rfl
@[simp] theorem dLen_dict : dLen [.dict kvs] = .ok (.int kvs.length) := rfl
@[simp] theorem dLen_str : dLen [.str u] = if u.length ≤ sizeLine then .ok (.int u.length) else .stuck := rfl
@[simp] theorem toBools_nil : toBools [] = some [] := rfl
@[simp] theorem toBools_cons : toBools (.bool b :: xs) = (toBools xs).map (b :: ·) := rfl
@[simp] theorem toInts_nil : toInts [] = some [] := rfl
@[simp] theorem toInts_cons : toInts (.int i :: xs) = (toInts xs).map (i :: ·) := rfl
@[simp] theorem dAll_list : dAll [.list xs] = (match toBools xs with | some bs => .ok (.bool (bs.all id)) | none => .stuck) := rfl
@[simp] theorem dAny_list : dAny [.list xs] = (match toBools xs with | some bs => .ok (.bool (bs.any id)) | none => .stuck) := rfl
@[simp] theorem dSum_list : dSum [.list xs] = (match toInts xs with | some ns => .ok (.int ns.sum) | none => .stuck) := rfl
@[simp] theorem dMax_2 : dMax [.int i, .int j] = .ok (.int (max i j)) := by
  show Res.ok (D.int (if j > i then j else i)) = _
  congr 2
  rw [Int.max_def]
  split <;> split <;> omega
@[simp] theorem dMin_2 : dMin [.int i, .int j] = .ok (.int (min i j)) := by
  show Res.ok (D.int (if j < i then j else i)) = _
  congr 2
  rw [Int.min_def]
  split <;> split <;> omega
@[simp] theorem dTuple_list : dTuple [.list xs] = .ok (.tuple xs) := rfl
@[simp] theorem dTuple_tuple : dTuple [.tuple xs] = .ok (.tuple xs) := rfl
@[simp] theorem dList_list : dList [.list xs] = .ok (.list xs) := rfl
@[simp] theorem dList_tuple : dList [.tuple xs] = .ok (.list xs) := rfl
@[simp] theorem toPairs_nil : toPairs [] = some [] := rfl
@[simp] theorem toPairs_cons : toPairs (.tuple [.str u, x] :: xs) = (toPairs xs).map ((.str u, x) :: ·) := rfl
@[simp] theorem dDict_list : dDict [.list xs] = (match toPairs xs with | some ms => .ok (.dict (mergeD [] ms)) | none => .stuck) := rfl
@[simp] theorem dDict_tuple : dDict [.tuple xs] = (match toPairs xs with | some ms => .ok (.dict (mergeD [] ms)) | none => .stuck) := rfl
@[simp] theorem dDict_dict : dDict [.dict kvs] = .ok (.dict kvs) := rfl
@[simp] theorem mergeD_nil : mergeD kvs [] = kvs := rfl
@[simp] theorem mergeD_cons {q : D × D} {qs : List (D × D)} : mergeD kvs (q :: qs) = mergeD (putD kvs q.1 q.2) qs := rfl
@[simp] theorem putD_ap : putD kvs x y = if hasKey x kvs = true then kvs.map fun kv => if D.eqv kv.1 x = true then (kv.1, y) else kv else kvs ++ [(x, y)] := rfl
@[simp] theorem hasKey_nil : hasKey x [] = false := rfl
@[simp] theorem hasKey_cons {q : D × D} : hasKey x (q :: kvs) = (D.eqv q.1 x || hasKey x kvs) := rfl
@[simp] theorem valAt_nil : valAt [] x = none := rfl
@[simp] theorem valAt_cons {q : D × D} : valAt (q :: kvs) x = if D.eqv q.1 x = true then some q.2 else valAt kvs x := by
  unfold valAt
  rw [List.find?_cons]
  cases D.eqv q.1 x <;> rfl
@[simp] theorem allStr_nil : allStr [] = some [] := rfl
@[simp] theorem allStr_cons : allStr ((.str u, x) :: kvs) = (allStr kvs).map (u :: ·) := rfl
@[simp] theorem dSorted_dict : dSorted [.dict kvs] = (match allStr kvs with | some ks => if ks.length < 64 then .ok (.list (sortL (ks.map .str))) else .stuck | none => .stuck) := rfl
@[simp] theorem dSorted_list : dSorted [.list xs] = if sortOk xs = true then .ok (.list (sortL xs)) else .stuck := rfl
@[simp] theorem small_ap : small n = decide (n ≤ 16777216) := rfl
@[simp] theorem mkT_ap : mkT xs = if small xs.length = true then .ok (.tuple xs) else .stuck := rfl
@[simp] theorem mkL_ap : mkL xs = if small xs.length = true then .ok (.list xs) else .stuck := rfl
@[simp] theorem zipD_cons : zipD (x :: xs) (y :: ys) = .tuple [x, y] :: zipD xs ys := rfl
@[simp] theorem zipD_nil : zipD [] ys = [] := by cases ys <;> rfl
@[simp] theorem zipD_nil2 : zipD xs [] = [] := by cases xs <;> rfl
@[simp] theorem zip2_tt : zip2 [.tuple xs, .tuple ys] = .ok (zipD xs ys) := rfl
@[simp] theorem zip2_ll : zip2 [.list xs, .list ys] = .ok (zipD xs ys) := rfl
@[simp] theorem range1_ap : range1 [.int i] = if inB i = true then .ok (upTo 0 i.toNat) else .stuck := rfl
@[simp] theorem range2_ap : range2 [.int i, .int j] = if inB i = true ∧ inB j = true then .ok (upTo i (j - i).toNat) else .stuck := rfl
@[simp] theorem isInt_int : isInt (.int i) = true := rfl
@[simp] theorem isInt_bool : isInt (.bool b) = true := rfl
@[simp] theorem isInt_str : isInt (.str u) = false := rfl
@[simp] theorem isInt_tuple : isInt (.tuple xs) = false := rfl
@[simp] theorem isBool_int : isBool (.int i) = false := rfl
@[simp] theorem isStr_str : isStr (.str u) = true := rfl
@[simp] theorem isTup_tuple : isTup (.tuple xs) = true := rfl
@[simp] theorem isLst_list : isLst (.list xs) = true := rfl
@[simp] theorem isDic_dict : isDic (.dict kvs) = true := rfl
@[simp] theorem dIn_ap : dIn x y = (match inB0 x y with | some b => .ok (.bool b) | none => .stuck) := rfl
@[simp] theorem sliceE_ap {lo hi : MM (Option Int)} : sliceE f lo hi ρ = Out.bind (f ρ) fun x => MM.bind lo fun l => MM.bind hi fun h => lift (sliceD x l h) := rfl
@[simp] theorem partN_ap : partN ρ = .ok none ρ := rfl
@[simp] theorem partS_ap : partS f ρ = Out.bind (f ρ) fun d => match d with | .int i => MM.pure (some i) | _ => stuck := rfl
@[simp] theorem sliceD_list {lo hi : Option Int} : sliceD (.list xs) lo hi = .ok (.list (cutD xs lo hi)) := rfl
@[simp] theorem sliceD_tuple {lo hi : Option Int} : sliceD (.tuple xs) lo hi = .ok (.tuple (cutD xs lo hi)) := rfl
/-! d.get -/
def get2K (f2 f3 : MM D) (o : Out D) : Out D := Out.bind o fun x => match x with
  | .dict kvs => MM.bind f2 fun k => MM.bind f3 fun z => match keyOf k with
    | some _ => MM.pure ((valAt kvs k).getD z)
    | none => stuck
  | _ => stuck
@[simp] theorem get2E_ap : get2E f1 f2 f3 ρ = get2K f2 f3 (f1 ρ) := rfl
@[simp] theorem get2K_ok : get2K f2 f3 (.ok (.dict kvs) ρ) = Out.bind (f2 ρ) fun k => MM.bind f3 fun z => match keyOf k with | some _ => MM.pure ((valAt kvs k).getD z) | none => stuck := rfl
theorem ol_if {α : Type} {o : Option (Option S)} {A B : α} : (match o with | some (some (.ol _)) => A | _ => B) = if (match o with | some (some (.ol _)) => true | _ => false) = true then A else B := by
  rcases o with _ | _ | s
  · rfl
  · rfl
  · cases s <;> rfl
theorem od_if {α : Type} {o : Option (Option S)} {A B : α} : (match o with | some (some (.od _)) => A | _ => B) = if (match o with | some (some (.od _)) => true | _ => false) = true then A else B := by
  rcases o with _ | _ | s
  · rfl
  · rfl
  · cases s <;> rfl
theorem dc_if {α : Type} {o : Option (Option S)} {A B : α} : (match o with | some (some (.dc _)) => A | _ => B) = if (match o with | some (some (.dc _)) => true | _ => false) = true then A else B := by
  rcases o with _ | _ | s
  · rfl
  · rfl
  · cases s <;> rfl
/-! owned slots -/
def ownK (g : List (D × D) → MM D) (ρ : MSt) : Option (Option S) → Out D
  | some (some (.od kvs)) => g kvs ρ
  | _ => .stuck
variable {g : List (D × D) → MM D}
@[simp] theorem ownD_ap : ownD k g ρ = ownK g ρ ρ[k]? := rfl
@[simp] theorem ownK_ok : ownK g ρ (some (some (.od kvs))) = g kvs ρ := rfl
def isOd : Option (Option S) → Bool
  | some (some (.od _)) => true
  | _ => false
@[simp] theorem isOd_od : isOd (some (some (.od kvs))) = true := rfl
@[simp] theorem oixE_ap : oixE k f ρ = if isOd ρ[k]? = true then Out.bind (f ρ) (fun x => ownD k fun kvs => match keyOf x, valAt kvs x with | some _, some d => MM.pure d | _, _ => stuck) else .stuck := by
  exact od_if
@[simp] theorem ogetE_ap : ogetE k f f3 ρ = if isOd ρ[k]? = true then Out.bind (f ρ) (fun x => MM.bind f3 fun z => ownD k fun kvs => match keyOf x with | some _ => MM.pure ((valAt kvs x).getD z) | _ => stuck) else .stuck := by
  exact od_if
@[simp] theorem oinE_ap : oinE k b f ρ = Out.bind (f ρ) (fun x => ownD k fun kvs => match keyOf x with | some _ => MM.pure (.bool (if b then hasKey x kvs else !hasKey x kvs)) | _ => stuck) := rfl
def newK (k : Nat) (o : Out S) : Out Fl := Out.bind o fun s => newS k s
@[simp] theorem newO_ap {fo : MM S} : newO fo k ρ = newK k (fo ρ) := rfl
@[simp] theorem newK_ok {s : S} : newK k (.ok s ρ) = newS k s ρ := rfl
@[simp] theorem newS_ap {s : S} : newS k s ρ = if k + 1 < ρ.length then .ok .nx (ρ.set k (some s)) else .stuck := rfl
def frzO (k : Nat) (ρ : MSt) (o : Option (Option S)) : MSt := match o with
  | some (some (.ol xs)) => ρ.set k (some (.d (.list xs)))
  | some (some (.od kvs)) => ρ.set k (some (.d (.dict kvs)))
  | _ => ρ
@[simp] theorem frzS_ap : frzS k ρ = frzO k ρ ρ[k]? := rfl
@[simp] theorem frzO_ol : frzO k ρ (some (some (.ol xs))) = ρ.set k (some (.d (.list xs))) := rfl
@[simp] theorem frzO_od : frzO k ρ (some (some (.od kvs))) = ρ.set k (some (.d (.dict kvs))) := rfl
@[simp] theorem frzO_d : frzO k ρ (some (some (.d x))) = ρ := rfl
@[simp] theorem frzO_dc : frzO k ρ (some (some (.dc xs))) = ρ := rfl
@[simp] theorem frzO_none : frzO k ρ (some none) = ρ := rfl
def isOl : Option (Option S) → Bool
  | some (some (.ol _)) => true
  | _ => false
@[simp] theorem isOl_ol : isOl (some (some (.ol xs))) = true := rfl
def appK (k : Nat) (d : D) (ρ : MSt) (o : Option (Option S)) : Out Fl := match o with
  | some (some (.ol xs)) => if xs.length < sizeLine then .ok .nx (ρ.set k (some (.ol (xs ++ [d])))) else .stuck
  | _ => .stuck
def appJ (k : Nat) (o : Out D) : Out Fl := Out.bind o fun d ρ => appK k d ρ ρ[k]?
@[simp] theorem appS_ap : appS k f ρ = if isOl ρ[k]? = true then appJ k (f ρ) else .stuck := by
  show (match ρ[k]? with | some (some (.ol _)) => appJ k (f ρ) | _ => .stuck) = _
  exact ol_if
@[simp] theorem appJ_ok : appJ k (.ok d ρ) = appK k d ρ ρ[k]? := rfl
@[simp] theorem appJ_ite {o o' : Out D} : appJ k (if p then o else o') = if p then appJ k o else appJ k o' := by split <;> rfl
@[simp] theorem appK_ok : appK k d ρ (some (some (.ol xs))) = if xs.length < sizeLine then .ok .nx (ρ.set k (some (.ol (xs ++ [d])))) else .stuck := rfl
def putK2 (k : Nat) (x v : D) (ρ : MSt) (o : Option (Option S)) (key : Option Key) : Out Fl := match o, key with
  | some (some (.od kvs)), some _ => if kvs.length < sizeLine then .ok .nx (ρ.set k (some (.od (putD kvs x v)))) else .stuck
  | _, _ => .stuck
def putJ (k : Nat) (v : D) (o : Out D) : Out Fl := Out.bind o fun x ρ => putK2 k x v ρ ρ[k]? (keyOf x)
def putI (k : Nat) (fk : MM D) (o : Out D) : Out Fl := Out.bind o fun v ρ => if isOd ρ[k]? = true then putJ k v (fk ρ) else .stuck
@[simp] theorem putS_ap {fv fk : MM D} : putS k fv fk ρ = putI k fk (fv ρ) := by
  unfold putS putI
  show Out.bind (fv ρ) _ = Out.bind (fv ρ) _
  congr 1
  funext v ρ
  show (match ρ[k]? with | some (some (.od _)) => putJ k v (fk ρ) | _ => .stuck) = _
  exact od_if
@[simp] theorem putI_ok {fk : MM D} : putI k fk (.ok d ρ) = if isOd ρ[k]? = true then putJ k d (fk ρ) else .stuck := rfl
@[simp] theorem putJ_ok : putJ k d (.ok x ρ) = putK2 k x d ρ ρ[k]? (keyOf x) := rfl
@[simp] theorem putK2_ok {key : Key} : putK2 k x d ρ (some (some (.od kvs))) (some key) = if kvs.length < sizeLine then .ok .nx (ρ.set k (some (.od (putD kvs x d)))) else .stuck := rfl
/-! several values -/
variable {gs : MM (List S)} {ss : List S} {s : S} {fo : MM S}
def consDK (gs : MM (List S)) (o : Out D) : Out (List S) := Out.bind o fun x => MM.bind gs fun ss => MM.pure (.d x :: ss)
def consSK (gs : MM (List S)) (o : Out S) : Out (List S) := Out.bind o fun x => MM.bind gs fun ss => MM.pure (x :: ss)
def consSJ (s : S) (o : Out (List S)) : Out (List S) := Out.bind o fun ss => MM.pure (s :: ss)
@[simp] theorem consD_ap : consD f gs ρ = consDK gs (f ρ) := rfl
@[simp] theorem consDK_ok : consDK gs (.ok x ρ) = consSJ (.d x) (gs ρ) := rfl
@[simp] theorem consDK_ite {o o' : Out D} : consDK gs (if p then o else o') = if p then consDK gs o else consDK gs o' := by split <;> rfl
@[simp] theorem consS_ap : consS fo gs ρ = consSK gs (fo ρ) := rfl
@[simp] theorem consSK_ok : consSK gs (.ok s ρ) = consSJ s (gs ρ) := rfl
@[simp] theorem consSJ_ok : consSJ s (.ok ss ρ) = .ok (s :: ss) ρ := rfl
@[simp] theorem consSJ_ite {o o' : Out (List S)} : consSJ s (if p then o else o') = if p then consSJ s o else consSJ s o' := by split <;> rfl
def parK (is : List Nat) (o : Out (List S)) : Out Fl := Out.bind o (putsR is)
variable {is : List Nat}
@[simp] theorem parL_ap : parL is gs ρ = parK is (gs ρ) := rfl
@[simp] theorem parK_ok : parK is (.ok ss ρ) = putsR is ss ρ := rfl
@[simp] theorem parK_ite {o o' : Out (List S)} : parK is (if p then o else o') = if p then parK is o else parK is o' := by split <;> rfl
@[simp] theorem putsR_ap : putsR is ss ρ = if is.length = ss.length ∧ (∀ i ∈ is, i + 1 < ρ.length) then .ok .nx (putsS ρ is ss) else .stuck := rfl
@[simp] theorem putsS_nil : putsS ρ [] ss = ρ := by cases ss <;> rfl
@[simp] theorem putsS_cons : putsS ρ (k :: is) (s :: ss) = putsS (ρ.set k (some s)) is ss := rfl
/-! dice -/
def isDcS : Option (Option S) → Bool
  | some (some (.dc _)) => true
  | _ => false
@[simp] theorem isDcS_dc : isDcS (some (some (.dc xs))) = true := rfl
variable {fm : List D → List D → Res (D × List D)}
def callOR (k : Nat) (ρ : MSt) (r : Res (D × List D)) : Out D := match r with
  | .ok (d, xs') => .ok d (ρ.set k (some (.dc xs')))
  | _ => .stuck
def callOJ (fm : List D → List D → Res (D × List D)) (k : Nat) (ds : List D) (ρ : MSt) (o : Option (Option S)) : Out D := match o with
  | some (some (.dc xs)) => callOR k ρ (fm xs ds)
  | _ => .stuck
def callOK (fm : List D → List D → Res (D × List D)) (k : Nat) (o : Out (List D)) : Out D := Out.bind o fun ds ρ => callOJ fm k ds ρ ρ[k]?
@[simp] theorem callO_ap : callO fm k ga ρ = if isDcS ρ[k]? = true then callOK fm k (ga ρ) else .stuck := by
  show (match ρ[k]? with | some (some (.dc _)) => callOK fm k (ga ρ) | _ => .stuck) = _
  exact dc_if
@[simp] theorem callOK_ok : callOK fm k (.ok xs ρ) = callOJ fm k xs ρ ρ[k]? := rfl
@[simp] theorem callOK_ite {o o' : Out (List D)} : callOK fm k (if p then o else o') = if p then callOK fm k o else callOK fm k o' := by split <;> rfl
@[simp] theorem callOJ_ok : callOJ fm k ys ρ (some (some (.dc xs))) = callOR k ρ (fm xs ys) := rfl
@[simp] theorem callOR_ok : callOR k ρ (.ok (d, xs)) = .ok d (ρ.set k (some (.dc xs))) := rfl
@[simp] theorem callOR_ite {o o' : Res (D × List D)} : callOR k ρ (if p then o else o') = if p then callOR k ρ o else callOR k ρ o' := by split <;> rfl
def dsetJ (k n : Nat) (d : D) (ρ : MSt) (o : Option (Option S)) : Out Fl := match o with
  | some (some (.dc xs)) => if n < xs.length then .ok .nx (ρ.set k (some (.dc (xs.set n d)))) else .stuck
  | _ => .stuck
def dsetK (k n : Nat) (o : Out D) : Out Fl := Out.bind o fun d ρ => dsetJ k n d ρ ρ[k]?
@[simp] theorem dsetS_ap : dsetS k n f ρ = dsetK k n (f ρ) := by unfold dsetS dsetK dsetJ; rfl
@[simp] theorem dsetK_ok : dsetK k n (.ok d ρ) = dsetJ k n d ρ ρ[k]? := rfl
@[simp] theorem dsetK_ite {o o' : Out D} : dsetK k n (if p then o else o') = if p then dsetK k n o else dsetK k n o' := by split <;> rfl
@[simp] theorem dsetJ_ok : dsetJ k n d ρ (some (some (.dc xs))) = if n < xs.length then .ok .nx (ρ.set k (some (.dc (xs.set n d)))) else .stuck := rfl
def borK (ρ : MSt) (o : Out D) : Out D := match o with
  | .ok d _ => if scal d = true then .ok d ρ else .stuck
  | _ => .stuck
@[simp] theorem borrow_ap : borrow f ρ = borK ρ (f (seen ρ)) := rfl
@[simp] theorem borK_ok {ρ' : MSt} : borK ρ (.ok d ρ') = if scal d = true then .ok d ρ else .stuck := rfl
def borTK (ρ : MSt) (o : Out Bool) : Out Bool := match o with
  | .ok d _ => .ok d ρ
  | _ => .stuck
@[simp] theorem borrowT_ap {t : MM Bool} : borrowT t ρ = borTK ρ (t (seen ρ)) := rfl
@[simp] theorem borTK_ok {ρ' : MSt} : borTK ρ (.ok b ρ') = .ok b ρ := rfl
@[simp] theorem seen_nil : seen [] = [] := rfl
@[simp] theorem seen_cons {o : Option S} : seen (o :: ρ) = o.bind seenS :: seen ρ := rfl
@[simp] theorem seenS_d : seenS (.d x) = some (.d x) := rfl
@[simp] theorem seenS_dc : seenS (.dc xs) = some (.d (.list xs)) := rfl
@[simp] theorem seenS_ol : seenS (.ol xs) = some (.d (.list xs)) := rfl
@[simp] theorem seenS_od : seenS (.od kvs) = none := rfl
@[simp] theorem scal_int : scal (.int i) = true := rfl
@[simp] theorem scal_bool : scal (.bool b) = true := rfl
@[simp] theorem scal_str : scal (.str u) = true := rfl
@[simp] theorem scal_none : scal .none = true := rfl
/-! defs -/
@[simp] theorem endF_rt : endF (.ok (.rt d) ρ) = .ok d := rfl
@[simp] theorem endF_nx : endF (.ok .nx ρ) = .ok .none := rfl
@[simp] theorem endF_exn : endF (.exn e ρ) = .exn e := rfl
@[simp] theorem endF_stuck : endF .stuck = .stuck := rfl
@[simp] theorem endF_ite {o o' : Out Fl} : endF (if p then o else o') = if p then endF o else endF o' := by split <;> rfl
@[simp] theorem runF_ap {s : MM Fl} : runF n m s xs = if xs.length = m then endF (s (startM n xs)) else .stuck := rfl
@[simp] theorem startM_ap : startM n xs = xs.map (fun d => some (S.d d)) ++ List.replicate (n + 1 - xs.length) none := rfl
@[simp] theorem runO_ap {s : MM Fl} : runO n m s xs ys = if ys.length + 1 = m then endO (s (startO n xs ys)) else .stuck := rfl
@[simp] theorem startO_ap : startO n xs ys = some (.dc xs) :: (ys.map (fun d => some (S.d d)) ++ List.replicate (n - ys.length) none) := rfl
@[simp] theorem endO_rt : endO (.ok (.rt d) (some (.dc xs) :: ρ)) = .ok (d, xs) := rfl
@[simp] theorem endO_nx : endO (.ok .nx (some (.dc xs) :: ρ)) = .ok (.none, xs) := rfl
@[simp] theorem endO_ite {o o' : Out Fl} : endO (if p then o else o') = if p then endO o else endO o' := by split <;> rfl
end
/-! at any outcome -/
def Wp {α : Type} (o : Out α) (P : α → MSt → Prop) : Prop := ∃ a ρ, o = .ok a ρ ∧ P a ρ
end Mi
set_option Elab.async false
set_option linter.all false
set_option maxRecDepth 100000
set_option maxHeartbeats 4000000
namespace Mi
open PySem L2
/-! ### a list's end while an exception is handled -/
section
variable {prog : Program} {w : World} {A : Around} {E : Value → Shared → Prop} {s : Shared}
theorem end_hot {it l x1 : Addr} {i : Nat} {items : Array Value} {Q : Option Value → Shared → Prop} (hot : HotX.HotAt A x1 s.heap) (hne : x1 ≠ it) (hit : s.heap.IsListIter it l i) (hl : s.heap.IsList l items) (hx : items[i]? = none)
    (hQ : ∀ h', (∀ b o, b ≠ it → s.heap.get? b = some o → h'.get? b = some o) → Q none { s with heap := h' }) : wpAny (model prog w) A (pyNext (.ref it)) Q E s := by
  obtain ⟨o, ho, hc, hd⟩ := id hit
  obtain ⟨ol, hol, _, nl, hdl⟩ := hl
  obtain ⟨hh, o1, vs1, h1, d1, c1⟩ := hot
  unfold pyNext
  refine wpAny_bind (wpAny_attempt (wpAny_callSpecial?_slot (name := Str.ofString "__next__") hit.typeIs slot_listiter_next (wpAny_call_entry slot_listiter_next hit.typeIs entry_listiter_next ?_ (args_listiter_next _))))
  show wpAny _ _ (field (.ref it) 0 >>= _) _ _ s
  refine wpAny_bind (wpAny_field ho hd (x := .ref l) rfl ?_)
  show wpAny _ _ (if (Value.ref l == Value.none) = true then _ else _) _ _ s
  rw [if_neg (show ¬ ((Value.ref l == Value.none) = true) from Bool.false_ne_true)]
  show wpAny _ _ (field (.ref it) 1 >>= _) _ _ s
  refine wpAny_bind (wpAny_field ho hd (x := .int i 0) rfl ?_)
  show wpAny _ _ (seqItems? (.ref l) >>= _) _ _ s
  refine wpAny_bind (wpAny_seqItems hol hdl ?_)
  simp only [Int.toNat_natCast, hx]
  refine wpAny_bind (wpAny_rule (wpAny_bind (wpAny_setField ho hd (by simp) ?_)))
  show wpAny _ _ (newExc (.type "StopIteration") [] >>= _) _ _ _
  refine wpAny_bind ?_
  simp only [newExc, newTuple]
  refine wpAny_bind (wpAny_newObj_type ?_ (by size_fits))
  refine wpAny_bind (m := firstArgMember _ _) (wpAny_of_eq (a := Value.none) (by first | rfl | (simp only [firstArgMember]; rfl)) ?_)
  refine wpAny_newObj_type ?_ (by size_fits)
  have h1' := (Heap.get?_update_other (h := s.heap) (a := it) (b := x1) (Obj.mapFields (·.setIfInBounds 0 .none)) hne.symm).trans h1
  refine HotX.raiseNew_hot ⟨hh, o1, vs1, Heap.get?_push_of_some _ (Heap.get?_push_of_some _ h1'), d1, c1⟩ (Nat.ne_of_lt (Heap.lt_size (Heap.get?_push_of_some _ h1'))) (Heap.get?_push_size _ rfl) rfl (by first | (simp; done) | (simp; omega) | (simp only [Array.size_append]; simp; omega)) ?_
  refine wpAny_bind (wpAny_isInstance (T := "StopIteration") (b := true) ⟨_, Heap.get?_update_self _ (Heap.get?_push_size _ rfl) rfl, rfl⟩ isSubtype_stop ?_)
  refine wpAny_pure (hQ _ fun b o hb e => ?_)
  have e' := (Heap.get?_update_other (h := s.heap) (a := it) (b := b) (Obj.mapFields (·.setIfInBounds 0 .none)) hb.symm).trans e
  rw [Heap.get?_update_other _ _ (Nat.ne_of_gt (Heap.lt_size (Heap.get?_push_of_some _ e')))]
  exact Heap.get?_push_of_some _ (Heap.get?_push_of_some _ e')
theorem walks_hot {I ax x1 : Addr} (hh : A.handled = some (.ref x1)) (hne : ax ≠ I) (hx : x1 ≠ I) (items : Array Value) :
    Walks prog w A I [I, ax, x1] [I] items.size (fun i v => items[i]? = some v) (fun i h => h.IsListIter I ax i ∧ h.IsList ax items ∧ HotX.HotAt A x1 h) where
  sub := fun b hb => by simp at hb; simp [hb]
  frame := fun _ _ _ st hk => ⟨st.1.at fun o e => hk I (by simp) o e, st.2.1.at fun o e => hk ax (by simp) o e, by
    obtain ⟨h0, o, vs, h1, h2⟩ := st.2.2
    exact ⟨h0, o, vs, hk x1 (by simp) o h1, h2⟩⟩
  item := fun i s Q E hi st hQ => by
    refine wpAny_pyNext_list_item st.1 st.2.1 (x := items[i]) (by simp [hi]) fun h' hit' hs' => ?_
    refine hQ _ h' s.toks (by simp [hi]) ⟨hit', st.2.1.extBut hs'.extBut hne, ?_⟩ fun b o hb e => hs'.extBut b o (fun h => hb (by simp [h])) e
    obtain ⟨h0, o, vs, h1, h2⟩ := st.2.2
    exact ⟨h0, o, vs, hs'.extBut x1 o hx h1, h2⟩
  done := fun s Q E st hQ => end_hot st.2.2 hx st.1 st.2.1 (by simp) fun h' he' => hQ h' s.toks fun b o hb e => he' b o (fun h => hb (by simp [h])) e
  self := fun _ _ _ _ st hQ => wpAny_pyIter_listiter st.1 hQ
theorem sum_hot {l x1 : Addr} {xs : Array (Int × Tok)} {Q : Value → Shared → Prop} (hot : HotX.HotAt A x1 s.heap) (hl : s.heap.IsList l (intItems xs)) (hfit : ∀ j, j < xs.size → InLong (numAt xs j) ∧ InLong (preSum (numAt xs) (j + 1)))
    (h : ∀ h' tk t', (∀ b o, s.heap.get? b = some o → h'.get? b = some o) → Q (.int (preSum (numAt xs) xs.size) t') { s with heap := h', toks := tk }) :
    wpAny (model prog w) A (call (.builtin "sum") [.ref l]) Q E s := by
  refine call_sum_walk (iter_intList hl fun s₂ e st hfp hlI => ?_)
  subst e
  obtain ⟨h0, o, vs, h1, h2⟩ := hot
  have hlt := Heap.lt_size h1
  refine ⟨_, _, _, _, _, _, numAt xs, rfl, walks_hot (A := A.in1) (x1 := x1) h0 hlI (Nat.ne_of_lt hlt) (intItems xs), ⟨st.1, st.2, h0, o, vs, Heap.get?_push_of_some _ h1, h2⟩, fun b hb => ?_, (fun _ _ => intItems_at), (fun j hj => hfit j (by simpa [intItems] using hj)), fun h' tk t' hk => ?_⟩
  · rcases List.mem_cons.mp hb with e | hb
    · exact hfp b (by simp [e])
    · rcases List.mem_cons.mp hb with e | hb
      · exact hfp b (by simp [e])
      · rcases List.mem_cons.mp hb with e | hb
        · rw [e]
          exact Heap.lt_size (Heap.get?_push_of_some _ h1)
        · cases hb
  · have := h h' tk t' (old_kept hk)
    simpa [intItems] using this
end
end Mi
set_option Elab.async false
set_option linter.all false
set_option maxRecDepth 100000
set_option maxHeartbeats 4000000
namespace Mi
open PySem L2
/-! ### a list walked while an exception is handled -/
/-- the handled exception's object is among the pins -/
def HotP (X : Cx) (pins : List (Addr × Obj)) : Prop := ∃ p : Addr × Obj, L2H.Hot1 X.A p ∧ p ∈ X.pn ++ pins
theorem HotP.at {X : Cx} {pins : List (Addr × Obj)} {σ : L2.St} {H : Hp} {s : Shared} (c : HotP X pins) (I : Inv X pins σ H s) : ∃ x1 o, HotX.HotAt X.A x1 s.heap ∧ (x1, o) ∈ X.pn ++ pins := by
  obtain ⟨p, ⟨hh, v1, e1, c1⟩, hp⟩ := c
  exact ⟨p.1, p.2, ⟨hh, p.2, v1, (I.pin p hp).1, e1, c1⟩, hp⟩
section
variable {X : Cx} {pins : List (Addr × Obj)} {σ : L2.St} {H : Hp} {s : Shared} {tg : Expr}
theorem item_hot {a it : Addr} {i : Nat} {E : Value → Shared → Prop} (I : Inv X pins σ H s) (hf : FpOk X pins H it) (st : s.heap.IsListIter it a i) (hg : (Itl X.K a).go i H) :
    wpAny (model X.prog X.w) X.A (pyNext (.ref it)) (fun r s1 => ∃ u, r = some u ∧ wpAny (model X.prog X.w) X.A (letOwnedTupleGo tg (.ref it) u) (fun _ s2 => ∃ x H', Inv X pins σ H' s2 ∧ RelV x u ∧ (Itl X.K a).yld i H x H' ∧ s2.heap.IsListIter it a (i + 1) ∧ H' it = none) E s1) E s := by
  obtain ⟨xs, x, hq, hx⟩ := hg
  obtain ⟨its, rv, p, hz⟩ := I.list hq
  obtain ⟨u, hu, ru⟩ := rv.get hx
  obtain ⟨f0, f1, f2, f3, f4, f5⟩ := id hf
  refine wpAny_pyNext_list_item st p.isList (x := u) (by simpa using hu) fun h' st' sb => ?_
  have I1 : Inv X pins σ H { s with heap := h' } := I.turned (t' := s.toks) (fun b o hb e => (sb.2 b hb).trans e) f0 f1 f3 f4 f5
  obtain ⟨o, e, c, d⟩ := id st'
  exact ⟨u, rfl, go_of (s := { s with heap := h' }) e c d (by decide) ⟨x, H, I1, ru, ⟨rfl, fun ys hy => by rw [I.list_inj hy hq]; exact hx⟩, st', f0⟩⟩
theorem done_hot {a it : Addr} {i : Nat} {E : Value → Shared → Prop} (hot : HotP X pins) (I : Inv X pins σ H s) (hf : FpOk X pins H it) (st : s.heap.IsListIter it a i) (hg : (Itl X.K a).stop i H) :
    wpAny (model X.prog X.w) X.A (pyNext (.ref it)) (fun r s1 => r = none ∧ Inv X pins σ H s1) E s := by
  obtain ⟨xs, hq, hx⟩ := hg
  obtain ⟨its, rv, p, hz⟩ := I.list hq
  obtain ⟨f0, f1, f2, f3, f4, f5⟩ := id hf
  have hl := rv.length
  obtain ⟨x1, o, hat, hm⟩ := hot.at I
  exact end_hot hat (fun z => f5 _ hm z) st p.isList (by simp; omega) fun h' eb => ⟨rfl, I.turned (t' := s.toks) (fun b o hb e => eb b o hb e) f0 f1 f3 f4 f5⟩
end
section
variable {X : Cx}
def iLst (K : Fg) (ti : TE) : TI := fun σ H R => ti σ H fun x H1 => ∃ a, x = .ref a ∧ (∃ xs, SqL K H1 a xs) ∧ R (Itl K a) H1
theorem pe_lcH {elt tg iter : Expr} {ifs : List Expr} {scope : Scope} {own : List (Str × Nat)} {pos : Pos} {ti : TE} {g : TG} {tt : TT} {te : TE} (hot : L2H.HotC X) (hst : X.stack = X.env :: X.outer) (hfr : X.env.frame = some X.env.locals) (hN : X.N.Nodup) (hi : PE X iter ti) (ok : BlkOk X.N X.env.scope scope own)
    (hg : ∀ (s : Shared) (H : Hp) (C : Addr) (cl : List (Str × Addr)) (fp : List Addr), PG (X.blk s H scope (compEnvC scope cl C X.env) fp) tg g) (ht : ∀ (s : Shared) (H : Hp) (C : Addr) (cl : List (Str × Addr)) (fp : List Addr), PTs (X.blk s H scope (compEnvC scope cl C X.env) fp) ifs tt)
    (he : ∀ (s : Shared) (H : Hp) (C : Addr) (cl : List (Str × Addr)) (fp : List Addr), PE (X.blk s H scope (compEnvC scope cl C X.env) fp) elt te) (hs : ∀ x, foldedSetIterable iter X.env x = pure x := by intro _; rfl) :
    PE X (.ListComp elt [⟨tg, iter, ifs, 0⟩] scope pos) (tLc (iLst X.K ti) g tt te (own.map (·.2))) := by
  refine ⟨fun pins s σ H Q I h => ?_⟩
  rw [eval_ListComp]
  have hfree : ∀ y ∈ scope.names, y.2 = .free → ∃ c, X.env.cells.lookup y.1 = some c := fun y hy e => (ok.free y hy e).elim (fun k => I.ok.has _ (.inl k)) fun k => I.ok.has _ (.inr k)
  refine wpAny_comprehension_free rfl hs (closure_ok hfree) ok.kind (fun y hy e => by rw [ok.uniq y hy, e]) (thn (hi.run pins s σ H _ I h) fun xv s1 ⟨x1, H1, I1, r1, a, ex, ⟨xs, hq⟩, q⟩ => ?_)
  subst ex
  cases r1
  obtain ⟨its, rv, pl, hz⟩ := I1.list hq
  refine wpAny_pyIter_list pl.isList ?_
  generalize hit : s1.heap.objs.size = it
  generalize hs2 : ({ s1 with heap := s1.heap.push { cls := .type "list_iterator", data := .fields #[.ref a, .int 0 0] } } : Shared) = s2
  have k12 : ∀ b o, s1.heap.get? b = some o → s2.heap.get? b = some o := fun b o e => by rw [← hs2]; exact Heap.get?_push_of_some _ e
  have I2 : Inv X pins σ H1 s2 := by rw [← hs2]; exact I1.kept (t' := s1.toks) fun b o e => Heap.get?_push_of_some _ e
  have st2 : s2.heap.IsListIter it a 0 := by rw [← hs2, ← hit]; exact ⟨_, Heap.get?_push_size _ rfl, rfl, rfl⟩
  have f2 : FpOk X pins H1 it := by rw [← hit]; exact I1.fpOk (Nat.le_refl _) (I1.hok.fresh (Nat.le_refl _))
  have itlt : it < s2.heap.objs.size := by obtain ⟨o, e, _⟩ := st2; exact Heap.lt_size e
  refine wpAny_newObj_type (newEnv_comp ?_) (by show 0 ≤ sizeLine; decide)
  generalize hD : s2.heap.objs.size = D
  have hDn : H1 D = none := I2.hok.fresh (Nat.le_of_eq hD)
  obtain ⟨W, ⟨m0, w0⟩, turn⟩ := q D hDn
  generalize hs3 : ({ s2 with heap := s2.heap.push { cls := .type "list", data := .seq ([] : List Value).toArray } } : Shared) = s3
  have k23 : ∀ b o, s2.heap.get? b = some o → s3.heap.get? b = some o := fun b o e => by rw [← hs3]; exact Heap.get?_push_of_some _ e
  have I3 : Inv X pins σ (upd H1 D (.lst [])) s3 := by
    rw [← hs3]
    refine I2.laid (t' := s2.toks) (fun b o e => Heap.get?_push_of_some _ e) (Nat.le_of_eq hD) ⟨Nat.zero_le _, [], 0, .nil, ?_⟩
    rw [← hD]
    exact Heap.get?_push_size _ rfl
  have sz3 : s3.heap.objs.size = s2.heap.objs.size + 1 := by rw [← hs3]; exact Heap.size_push ..
  have f3 : ∀ b ∈ [it], FpOk X pins (upd H1 D (.lst [])) b ∧ b < s3.heap.objs.size := fun b hb => by
    obtain rfl : b = it := by simpa using hb
    refine ⟨⟨?_, f2.2⟩, by rw [sz3]; exact Nat.lt_succ_of_lt itlt⟩
    rw [upd_ne (by rw [← hD]; exact Nat.ne_of_lt itlt)]
    exact f2.1
  have st3 : s3.heap.IsListIter it a 0 := st2.at fun o e => k23 it o e
  have I4 := block_start I3 ok hN f3
  have pg := hg s3 (upd H1 D (.lst [])) s3.heap.objs.size (cellsFrom (s3.heap.objs.size + 1) scope.names (cloFrom X.env.cells scope.names [])) [it]
  have pt := ht s3 (upd H1 D (.lst [])) s3.heap.objs.size (cellsFrom (s3.heap.objs.size + 1) scope.names (cloFrom X.env.cells scope.names [])) [it]
  have pe := he s3 (upd H1 D (.lst [])) s3.heap.objs.size (cellsFrom (s3.heap.objs.size + 1) scope.names (cloFrom X.env.cells scope.names [])) [it]
  show codeAny _ _ (.compStart (.ListComp elt [⟨tg, iter, ifs, 0⟩] scope pos) 0 (.ref it) (.ref D) (compEnvC scope (cellsFrom (s3.heap.objs.size + 1) scope.names (cloFrom X.env.cells scope.names [])) s3.heap.objs.size X.env)) (compPost (model X.prog X.w) X.A X.xe none _ (.ref D) s3.heap.objs.size) { s3 with heap := pushCells (s3.heap.push { cls := .type "dict", data := .dict #[] }) scope.names }
  have nfp : (upd H1 D (.lst [])) it = none := (f3 it (by simp)).1.1
  generalize hce : compEnvC scope (cellsFrom (s3.heap.objs.size + 1) scope.names (cloFrom X.env.cells scope.names [])) s3.heap.objs.size X.env = ce at I4 pg pt pe ⊢
  have cL : ce.locals = s3.heap.objs.size := by subst hce; rfl
  generalize hH3 : upd H1 D (.lst []) = H3 at I3 I4 pg pt pe w0 nfp f3
  generalize hs4 : ({ s3 with heap := pushCells (s3.heap.push { cls := .type "dict", data := .dict #[] }) scope.names } : Shared) = s4 at I4 ⊢
  have k34 : ∀ b o, s3.heap.get? b = some o → s4.heap.get? b = some o := fun b o e => by rw [← hs4]; exact pushCells_keeps _ _ _ _ (Heap.get?_push_of_some _ e)
  have st4 : s4.heap.IsListIter it a 0 := st3.at fun o e => k34 it o e
  have pinB : ∀ p ∈ X.pn, s4.heap.get? p.1 = some p.2 ∧ H3 p.1 = none ∧ p.1 ≠ ce.locals ∧ p.1 ∉ frs X.stack ∧ ∀ v, p.2.data ≠ .cell v := fun p hp => by
    obtain ⟨h1, h2, h3, h4, h5⟩ := I3.pin p (List.mem_append_left _ hp)
    refine ⟨k34 _ _ h1, h2, by rw [cL]; exact Nat.ne_of_lt (Heap.lt_size h1), fun z => ?_, h5⟩
    rw [hst] at z
    unfold frs at z
    rw [List.filterMap_cons, hfr] at z
    rcases List.mem_cons.mp z with z | z
    · exact h3 z
    · exact h4 z
  have I4' : Inv (X.blk s3 H3 scope ce [it]) X.pn (wipe σ (own.map (·.2))) H3 s4 := I4.pins_of pinB
  have hotB : HotP (X.blk s3 H3 scope ce [it]) X.pn := by
    obtain ⟨p, h1, h2⟩ := hot
    exact ⟨p, h1, List.mem_append_right _ h2⟩
  have itpn : ∀ p ∈ X.pn, p.1 ≠ it := fun p hp => f2.2.2.2.2.2 p (List.mem_append_left _ hp)
  have stat : ∀ {σ' : L2.St} {H' : Hp} {s' : Shared}, Inv (X.blk s3 H3 scope ce [it]) X.pn σ' H' s' → H' it = none → FpOk (X.blk s3 H3 scope ce [it]) X.pn H' it := fun {σ' H' s'} I' hn =>
    ⟨hn, (I'.ok.exf it (by simp)).1, I'.ok.exfs it (by simp), .inl (by simp), fun x c e => (I'.ok.exf it (by simp)).2 x c e, fun p hp => itpn p (by simpa using hp)⟩
  have loop : codeAny (model X.prog X.w) X.A (.compLoop (.ListComp elt [⟨tg, iter, ifs, 0⟩] scope pos) 0 (.ref it) (.ref D) ce) (compPost (model X.prog X.w) X.A X.xe none (EP X pins σ Q) (.ref D) s3.heap.objs.size) s4 := by
    refine compLoop_any (fun n s' => ∃ i H', Inv (X.blk s3 H3 scope ce [it]) X.pn (wipe σ (own.map (·.2))) H' s' ∧ s'.heap.IsListIter it a i ∧ H' it = none ∧ W i n H') ?_ m0 ⟨0, H3, I4', st4, nfp, w0⟩
    rintro n s5 ⟨i, H5, I5, st5, n5, w5⟩
    rcases turn i n H5 w5 with ⟨stop, qq⟩ | ⟨go, Nx, hNx, step⟩
    · refine thnF (done_hot (X := X.blk s3 H3 scope ce [it]) (E := fun _ _ => False) hotB I5 (stat I5 n5) st5 stop) fun r s6 ⟨hr, I6⟩ => ?_
      subst hr
      have I7 : Inv X pins σ H5 s6 := I3.call' (ch := [it]) I6.os I6.base I6.hok I6.bare fun b hb => ⟨(f3 b hb).1.2.2.2.1, (f3 b hb).1.2.1, (f3 b hb).1.2.2.2.2.1, (f3 b hb).1.2.2.2.2.2⟩
      have nC : H5 s3.heap.objs.size = none := by
        have z : H5 ce.locals = none := I6.free
        rw [cL] at z
        exact z
      obtain ⟨m, hn, _⟩ := I6.loc
      have hn : s6.heap.Ns ce.locals m := hn
      rw [cL] at hn
      have hRR : ∀ D C s' m H', Inv X pins σ H' s' → Q (.ref D) H' → s'.heap.Ns C m → FpOk X pins H' C → compPost (model X.prog X.w) X.A X.xe none (EP X pins σ Q) (.ref D) C (.ok .next) s' := fun D C s' m H' I' q hn f => ⟨m, hn, fun h'' sb => by
        obtain ⟨f0, f1, f2, f3, f4, f5⟩ := f
        exact ⟨.ref D, H', I'.turned (t' := s'.toks) (fun b o hb e => (sb.2 b hb).trans e) f0 f1 f3 f4 f5, rfl, q⟩⟩
      exact hRR D s3.heap.objs.size s6 m H5 I7 qq hn (I3.fpOk (Nat.le_refl _) nC)
    · refine thnF (item_hot (X := X.blk s3 H3 scope ce [it]) (tg := tg) (E := fun _ _ => False) I5 (stat I5 n5) st5 go) fun r s6 ⟨u, hr, h6⟩ => ?_
      subst hr
      refine thnF h6 fun _ s7 ⟨x, H7, I7, r7, y7, st7, n7⟩ => ?_
      have I7' : Inv (X.blk s3 H3 scope ce [it]) (X.pn ++ pinsAt [it] s7.heap) (wipe σ (own.map (·.2))) H7 s7 := I7.pinned (fun b hb => by
        obtain rfl : b = it := by simpa using hb
        exact stat I7 n7) fun b hb => by
          obtain rfl : b = it := by simpa using hb
          obtain ⟨o, e, c, d⟩ := st7
          exact ⟨o, e, fun v z => by rw [d] at z; cases z⟩
      refine thnF (pg.run _ s7 _ H7 x u _ I7' r7 (step x H7 y7)) fun _ s8 ⟨σ8, H8, I8, hw8, q8⟩ => ?_
      refine thnF (pt.run _ s8 σ8 H8 _ I8 q8) fun b s9 ⟨H9, I9, q9⟩ => ?_
      have fin : ∀ {s' : Shared} {H' : Hp}, Inv (X.blk s3 H3 scope ce [it]) (X.pn ++ pinsAt [it] s7.heap) σ8 H' s' → Nx H' → ∃ m, m < n ∧ ∃ i H', Inv (X.blk s3 H3 scope ce [it]) X.pn (wipe σ (own.map (·.2))) H' s' ∧ s'.heap.IsListIter it a i ∧ H' it = none ∧ W i m H' := fun {s' H'} I' nx => by
        obtain ⟨m', hm, w'⟩ := hNx H' nx
        have pin' : ∀ o, s7.heap.get? it = some o → s'.heap.get? it = some o ∧ H' it = none := fun o e =>
          let z := I'.pin (it, o) (List.mem_append_right _ (List.mem_append_right _ (mem_pinsAt (by simp) e)))
          ⟨z.1, z.2.1⟩
        have hl : (wipe σ (own.map (·.2))).length = σ8.length := by rw [← hw8, wipe_length]
        refine ⟨m', hm, i + 1, H', (I'.unpinned (pins := X.pn)).weak hl (fun j v e => ?_), st7.at fun o e => (pin' o e).1, ?_, w'⟩
        · rw [← hw8] at e
          exact (wipe_some e).1
        · obtain ⟨o, e, _⟩ := st7
          exact (pin' o e).2
      cases b with
      | false =>
        simp only [Bool.false_eq_true, if_false] at q9 ⊢
        exact fin I9 q9
      | true =>
        simp only [if_true] at q9 ⊢
        refine thnF (pe.run _ s9 σ8 H9 _ I9 q9) fun z s10 ⟨yv, H10, I10, r10, acc, hD10, hz10, nx⟩ => ?_
        exact app_ok (X := X.blk s3 H3 scope ce [it]) I10 hD10 hz10 r10 fun s11 I11 => fin I11 nx
  exact codeAny_compStart_list loop (wpAny_pyIter_listiter st4 loop)
end
end Mi
set_option Elab.async false
set_option linter.all false
set_option maxRecDepth 100000
set_option maxHeartbeats 4000000
namespace Mi
open PySem L2
/-! ### try: body, several clauses 'except x as n' -/
abbrev Cl := Value × (Addr → Value → Option Addr → TS)
def wAsL (K : Fg) (i : Nat) (Wout : WX) (D : Ends) : List Cl → WX
  | [] => Wout
  | (c, ts) :: r => wAs K c i ts (wAsL K i Wout D r) D
inductive HdsAs (X : Cx) (n : Str) : List ExceptHandler → List Cl → Prop
  | nil : HdsAs X n [] []
  | cons {x : Str} {c : Value} {ts : Addr → Value → Option Addr → TS} {b₀ : Stmt} {suite : List Stmt} {np pos' : Pos} {hds : List ExceptHandler} {l : List Cl} (hc : Names X x c)
      (hsu : ∀ (a : Addr) (oe : Obj) (cls : Value) (d : Option Addr) (pn : List (Addr × Obj)), L2N.Zn cls d oe → (∃ vs, oe.data = .fields vs) → PSs (X.suite a ((a, oe) :: pn)) (b₀ :: suite) (ts a cls d)) (r : HdsAs X n hds l) :
      HdsAs X n (.ExceptHandler (some (.Name x np)) (some n) (b₀ :: suite) pos' :: hds) ((c, ts) :: l)
section
variable {X : Cx} {n : Str} {i : Nat} {body : List Stmt} {h₀ : ExceptHandler} {hds : List ExceptHandler} {l : List Cl} {pos : Pos} {tb : WX → TS} {Wout : WX}
theorem ps_try_asL (hs : X.stack = X.env :: X.outer) (hf : X.env.frame = some X.env.locals) (hN : X.N.Nodup) (hi : X.N[i]? = some n) (hln : X.env.kindOf n = some .local) (tk : L2N.Takes X Wout)
    (hb : ∀ (W : WX) (pn : List (Addr × Obj)) (xe : Value → Shared → Prop), L2N.Takes (X.tr pn xe) W → PassesOwn (model X.prog X.w) X.A X.env xe → PSs (X.tr pn xe) body (tb W))
    (hh : HdsAs X n (h₀ :: hds) l) : PS X (.Try body (h₀ :: hds) [] [] pos) (fun D σ H => tb (wAsL X.K i Wout D l) D σ H) := by
  refine ⟨fun pins s σ H D I h => ?_⟩
  have ok := I.ok
  have hfr : X.A.frames = some (X.env :: X.outer) := by rw [ok.frames, hs]
  have hloc : Loc X.env.scope n := .inl hln
  refine wpAny_Try_except ?_
  refine wpAny_mono ((hb (wAsL X.K i Wout D l) (X.pn ++ pins) (fun e s₁ => wpAny (model X.prog X.w) X.A (noteFrame e X.env) (fun _ s₂ => wpAny (model X.prog X.w) X.A (setFlight e none) (fun _ s₃ => wpAny (model X.prog X.w) X.A (handleBy e X.env (h₀ :: hds)) (SP X pins D) X.xe s₃) X.xe s₂) X.xe s₁) (fun u s' xx => ?_) PassesOwn.looking).run [] s σ H D (I.toTry _) h) (fun f s1 hsp => ?_) (fun e s1 he => he)
  · obtain ⟨a, B, sI, pins', σ', H', cls, d, rfl, J', nb, up, sky, na, os, ag, w⟩ := xx
    have J : Inv X pins σ' H' sI := J'.ofTry ok
    have sky' : Sky B (X.env :: X.outer) a (L2N.Zn cls d) X.env.locals s'.heap := by rw [← hs]; exact sky
    show wpAny (model X.prog X.w) X.A (noteFrame (.ref a) X.env) _ _ _
    refine L2N.Sky.land L2N.Zn.steady hfr hf sky' fun h3 fl3 up3 => ?_
    have J3 : Inv X pins σ' H' { s' with heap := h3 } := J.landed nb fl3.1 (up.trans up3) os ag
    obtain ⟨oe3, vs3, he3, hz3, hd3⟩ := fl3.there
    have nfr : a ∉ frs (X.env :: X.outer) := fun hm => by
      obtain ⟨_, o', e', hnf⟩ := fl3.2.2.1.mem hm
      rw [he3] at e'; cases e'
      exact hnf _ hd3
    have nL : a ≠ X.env.locals := fun z => nfr (List.mem_filterMap.mpr ⟨X.env, List.mem_cons_self, by rw [hf, z]⟩)
    have nF : a ∉ X.fs := fun hm => by
      obtain ⟨e, he, q⟩ := List.mem_filterMap.mp hm
      exact nfr (List.mem_filterMap.mpr ⟨e, List.mem_cons_of_mem _ he, q⟩)
    have S3 := J3.suite he3 hd3 na nL nF
    have go : ∀ {hds' : List ExceptHandler} {l' : List Cl}, HdsAs X n hds' l' → wAsL X.K i Wout D l' cls d σ' H' → wpAny (model X.prog X.w) X.A (handleBy (.ref a) X.env hds') (SP X pins D) X.xe { s' with heap := h3 } := by
      intro hds' l' hk
      induction hk with
      | nil =>
        intro w
        refine wpAny_handleBy_nil ?_
        obtain ⟨k1, k2, k3, oe, vs, T, oT, ts', he, hz, hd, h1, hr⟩ := id fl3
        unfold PySem.passOn
        refine wpAny_bind (wpAny_field he hd h1 ?_)
        rw [if_neg (show ¬ ((Value.ref T == Value.none) = true) from by simp)]
        have fin : wpAny (model X.prog X.w) X.A (setFlight (.ref a) X.env.frame) (fun _ s4 => wpAny (model X.prog X.w) X.A (throw (.ref a) : Sem Flow) (SP X pins D) X.xe s4) X.xe { s' with heap := h3 } := by
          rw [hf]
          refine HandSPX.setFlight_upZ fl3 fun h4 hh4 up4 => wpAny_throw (tk _ _ ?_)
          exact ⟨a, B, sI, pins, σ', H', cls, d, rfl, J, nb, (up.trans up3).trans up4, .inr (.inr (by rw [hs]; exact hh4)), na, os, ag, w⟩
        first
          | exact wpAny_bind (wpAny_pure (wpAny_bind fin))
          | exact wpAny_bind fin
      | @cons x c ts b₀ suite np pos' hds2 l2 hc hsu r ih =>
        intro w
        obtain ⟨b, hb1, hyes, hno⟩ := w
        refine wpAny_handleBy_cons (codeAny_handlers_test ?_) (by intro q; cases q)
        have LT : PySem.W.Looks (model X.prog X.w) h3 (typeOf (.ref a)) cls := fun A Q E s k q => wpAny_typeOf_ref (k _ _ he3) (by rw [hz3.1]; exact q)
        have LM := PySem.W.exm_one (M := model X.prog X.w) (J3.kIn) LT hb1
        have test : ∀ {Q : Value → Shared → Prop} {E : Value → Shared → Prop}, Q c { s' with heap := h3 } → wpAny (model X.prog X.w) (X.A.mark (some (.ref a))) (eval (.Name x np) X.env) Q E { s' with heap := h3 } := fun {Q E} q => by
          obtain ⟨hg, hdbg, hm | ⟨hm, hv, hnn⟩⟩ := hc
          · exact ld_glob (X := X.suite a ((a, oe3) :: (X.pn ++ pins))) S3 hg hm q hdbg
          · exact ld_blt (X := X.suite a ((a, oe3) :: (X.pn ++ pins))) S3 hg hm hv q hnn hdbg
        refine test (LM.here ?_)
        cases b with
        | true =>
          refine codeAny_handlers_suite_as ?_
          refine HandSPX.lands_againZ fl3 fun h4 fl4 up4 => ?_
          have J4 : Inv X pins σ' H' { s' with heap := h4 } := J.landed nb fl4.1 ((up.trans up3).trans up4) os ag
          obtain ⟨oe4, vs4, he4, hz4, hd4⟩ := fl4.there
          have S4 := J4.suite he4 hd4 na nL nF
          refine store_ok (X := X.suite a ((a, oe4) :: (X.pn ++ pins))) (v := .ref a) S4 hN hi hloc rfl (fun s5 S5 => ?_) (.inr hln)
          refine wpAny_mono ((hsu a oe4 cls d (X.pn ++ pins) hz4 ⟨_, hd4⟩).run [] s5 _ H' _ S5 (hyes rfl a na)) (fun f s6 hsp => ?_) (fun _ _ z => False.elim z)
          have end_ : ∀ {σ6 : L2.St} {H6 : Hp} {Q : Shared → Prop}, Inv (X.suite a ((a, oe4) :: (X.pn ++ pins))) [] σ6 H6 s6 → (∀ s7, Inv X pins (σ6.set i none) H6 s7 → Q s7) → wpAny (model X.prog X.w) X.A (do bindName X.env n .none; unbindBehindTheSuite X.env n pos') (fun _ s7 => Q s7) X.xe s6 := fun {σ6 H6 Q} S6 hq => gone_ok (S6.unsuite ok) hN hi hln hq
          cases f with
          | next => obtain ⟨σ6, H6, S6, q6⟩ := hsp; exact end_ S6 fun s7 J7 => ⟨_, _, J7, q6⟩
          | brk => obtain ⟨σ6, H6, S6, q6⟩ := hsp; exact end_ S6 fun s7 J7 => ⟨_, _, J7, q6⟩
          | cont => obtain ⟨σ6, H6, S6, q6⟩ := hsp; exact end_ S6 fun s7 J7 => ⟨_, _, J7, q6⟩
          | ret u => obtain ⟨v6, σ6, H6, S6, r6, q6⟩ := hsp; exact end_ S6 fun s7 J7 => ⟨_, _, _, J7, r6, q6⟩
        | false =>
          show wpAny _ X.A (handleBy (.ref a) X.env hds2) _ _ _
          exact ih (hno rfl)
    exact go hh w
  · cases f with
    | next => obtain ⟨σ', H', J', q⟩ := hsp; exact wpAny_execs_nil ⟨σ', H', J'.ofTry ok, q⟩
    | brk => obtain ⟨σ', H', J', q⟩ := hsp; exact ⟨σ', H', J'.ofTry ok, q⟩
    | cont => obtain ⟨σ', H', J', q⟩ := hsp; exact ⟨σ', H', J'.ofTry ok, q⟩
    | ret u => obtain ⟨v, σ', H', J', r, q⟩ := hsp; exact ⟨v, σ', H', J'.ofTry ok, r, q⟩
end
/-! ### a lambda handed to a def and called there: exceptions with their context known -/
section
variable {X : Cx} {pins : List (Addr × Obj)} {σ : L2.St} {H HZ : Hp} {s s1 : Shared}
abbrev lamN (X : Cx) (A : Around) (outer : List Env) (s : Shared) (H : Hp) (E : XK) (scope : Scope) (f c' : Addr) : Cx :=
  { LamX.lamCx X A outer s H E scope f c' with xe := fun e s' => wpAny (model X.prog X.w) (A.deeper (LamX.lamEnv X scope s.heap.objs.size f c')) (leaving (LamX.lamEnv X scope s.heap.objs.size f c') e) (fun _ s'' => L2N.CX X.prog X.w outer H s E e s'') (fun e' s'' => L2N.CX X.prog X.w outer H s E e' s'') s' }
theorem pe_actN {CXg : CXT} {Eg : XK} {Ng : List Str} {qg : Str} {sg : Scope} {g f c' : Addr} {cdg pm ctv : Value} {params : Arguments} {body : Expr} {scope : Scope} {k i : Nat} {a : Str} {pn : List (Addr × Obj)} {xe : Value → Shared → Prop} {W : WX} {E : XK} {tb : TE} {p1 p2 : Pos}
    (I : Inv X pins σ H s) (L : LamX.LamS X.env.scope scope) (hf : s.heap.get? f = some (PySem.W.kla_obj "<lambda>" (X.env.qual ++ "<lambda>") params body scope (cloFrom X.env.cells scope.names []) pm c' ctv)) (hfn : H f = none) (hfr : f ∉ frs X.stack)
    (hbind : bindArgs (PySem.W.kla_fn "<lambda>" (X.env.qual ++ "<lambda>") params body scope (cloFrom X.env.cells scope.names []) pm (.ref c') ctv) ⟨[], []⟩ = pure [])
    (tk : L2N.Takes ((cxOf CXg X.prog X.w X.K X.mg X.base Ng qg sg g cdg X.A X.stack s H Eg).tr pn xe) W) (hW : ∀ cls d σ' H', E cls d H' → W cls d σ' H') (hr : Room (k + 1) (X.A.deeper (PyProof.Rows.envOfC qg sg s.heap.objs.size g cdg)))
    (hbody : ∀ (A : Around) (outer : List Env) (s : Shared) (H : Hp), Room k (A.deeper (LamX.lamEnv X scope s.heap.objs.size f c')) → PE (lamN X A outer s H E scope f c') body tb)
    (hN : Ng[i]? = some a) (hv : Vis sg a) (hd : (a == ("__debug__" : Str)) = false := by decide) (hcd : (a == ("__classdict__" : Str)) = false := by decide) :
    PE ((cxOf CXg X.prog X.w X.K X.mg X.base Ng qg sg g cdg X.A X.stack s H Eg).tr pn xe) (.Call (.Name a p1) [] [] p2)
      (fun σZ HZ Q => σZ[i]? = some (some (.ref f)) ∧ HZ c' = some (LamX.CodeO c' (X.env.qual ++ "<lambda>")) ∧ tb σ HZ Q) := by
  refine ⟨fun pinsZ sZ σZ HZ Q IZ h => ?_⟩
  obtain ⟨hs, hc, ht⟩ := h
  refine wpAny_Call_Name_kw (thn ((pe_var (pos := p1) (i := i) hN hv hd hcd).run pinsZ sZ σZ HZ (fun v H1 => v = .ref f ∧ H1 = HZ) IZ ⟨.ref f, hs, rfl, rfl⟩) fun u s1 ⟨v, H1, I1, r1, q1⟩ => ?_)
  obtain ⟨ev, eH⟩ := q1
  subst ev
  rw [eH] at I1
  obtain rfl : u = Value.ref f := r1
  have of1 : s1.heap.get? f = some (PySem.W.kla_obj "<lambda>" (X.env.qual ++ "<lambda>") params body scope (cloFrom X.env.cells scope.names []) pm c' ctv) := I1.base.keep f _ hf hfn hfr (fun z => nomatch (show f ∈ ([] : List Addr) from z))
  refine PySem.W.callWith_F0 ⟨_, _, _, _, of1⟩ ?_
  have un : Un (frs X.stack) [] H HZ s.heap s1.heap := I1.base
  obtain ⟨⟨oc, vs, t, hoc, hdc, hvc⟩, _, _⟩ := I1.hok c' _ hc
  have rc : codeAny (model X.prog X.w) (X.A.deeper (PyProof.Rows.envOfC qg sg s.heap.objs.size g cdg)) (.call (.ref f) ⟨[], []⟩) (CR (L2N.CX X.prog X.w) (PyProof.Rows.envOfC qg sg s.heap.objs.size g cdg :: X.stack) X.prog X.w HZ s1 Q E) s1 := by
    refine PySem.W.kla_callFunE hr.depth of1 rfl L.co L.gen rfl ⟨c', oc, vs, t, rfl, hoc, hdc, hvc⟩ ?_
    rw [hbind]
    refine wpAny_pure (wpAny_newFunctionEnv (fun y hy => (L.own y hy).2) (fun y hy => absurd hy (by simp)) (fun h₁ hns hsb => ⟨I1.nolimit.fresh _ hsb, ?_⟩) L.kind)
    show codeAny _ _ (.expr body (LamX.lamEnv X scope s1.heap.objs.size f c')) _ _
    have kp : ∀ b o, s1.heap.get? b = some o → h₁.get? b = some o := fun b o e => hsb.extBut b o (Nat.ne_of_lt (Heap.lt_size e)) (Heap.get?_push_of_some _ e)
    have J : Inv (LamX.lamCx X (X.A.deeper (PyProof.Rows.envOfC qg sg s.heap.objs.size g cdg)) (PyProof.Rows.envOfC qg sg s.heap.objs.size g cdg :: X.stack) s1 HZ E scope f c') [] σ HZ { s1 with heap := h₁, toks := s1.toks + ([] : List (Str × Value)).length } :=
      LamX.lam_start2 I L I1.env0 hr.hd un hns kp
    have J2 : Inv (lamN X (X.A.deeper (PyProof.Rows.envOfC qg sg s.heap.objs.size g cdg)) (PyProof.Rows.envOfC qg sg s.heap.objs.size g cdg :: X.stack) s1 HZ E scope f c') [] σ HZ { s1 with heap := h₁, toks := s1.toks + ([] : List (Str × Value)).length } := J.toTry _
    refine PySem.W.kla_codeExpr (wpAny_mono ((hbody _ _ s1 HZ (hr.deeper _)).run [] _ _ HZ Q J2 ht) (fun v s' hq => ?_) fun e s' hq => hq)
    obtain ⟨w', H', J', rv, q⟩ := hq
    exact ⟨w', H', J'.os, J'.bare, J'.base, J'.hok, rv, q⟩
  have hx : Passes (L2N.CX X.prog X.w) ((cxOf CXg X.prog X.w X.K X.mg X.base Ng qg sg g cdg X.A X.stack s H Eg).tr pn xe) E := L2N.passes_call tk hW
  refine wpAny_call (codeAny_mono rc fun r s' hq => ?_)
  cases r with
  | error e => exact hx pinsZ σZ HZ s1 e s' I1 hq
  | ok fl =>
    cases fl with
    | ret u => exact I1.after hq
    | next => exact False.elim hq
    | brk => exact False.elim hq
    | cont => exact False.elim hq
end
end Mi
set_option Elab.async false
set_option linter.all false
set_option maxRecDepth 100000
set_option maxHeartbeats 4000000
namespace Mi
open PySem L2
section
variable {X : Cx} {pins : List (Addr × Obj)} {σ : L2.St} {H : Hp} {s : Shared}
theorem lam_make3 {T : List (Addr × Str)} {c P : Addr} {params : Arguments} {body : Expr} {scope : Scope} {pos : Pos} {E : Value → Shared → Prop} {Q : Value → Shared → Prop} (I : Inv X pins σ H s) (TB : LamX.TabB X.base X.mg c P) (hcode : X.env.code = .ref c)
    (hm : (P, X.env.qual ++ "<lambda>") ∈ T) (hu : ∀ p ∈ T, p.1 = P → p.2 = X.env.qual ++ "<lambda>") (hT : LamX.Tabs T H) (hdef : defaultsOf params X.env = ([], [])) (hfree : ∀ y ∈ scope.names, y.2 = .free → ∃ c, X.env.cells.lookup y.1 = some c)
    (h : ∀ (f c' : Addr) (pm ctv : Value) (H1 : Hp) (s' : Shared), Inv X pins σ H1 s' → LamX.ExtN H H1 → (∀ a ps, H a = some (.tbl ps) → ∃ ps', H1 a = some (.tbl ps')) → LamX.Tabs T H1 →
      s'.heap.get? f = some (PySem.W.kla_obj "<lambda>" (X.env.qual ++ "<lambda>") params body scope (cloFrom X.env.cells scope.names []) pm c' ctv) → H1 f = none → f ∉ frs X.stack → H1 c' = some (LamX.CodeO c' (X.env.qual ++ "<lambda>")) → Q (.ref f) s') :
    wpAny (model X.prog X.w) X.A (eval (.Lambda params body scope pos) X.env) Q E s := by
  obtain ⟨ps, hP, ht, ha⟩ := hT _ hm
  refine PySem.W.kla_eval hdef ?_
  have bP : s.heap.BuiltinsAt X.mg P := TB.bm.keeps I.bk
  have hP' : s.heap.get? P = some { cls := .none, data := .fields ps } := I.hok P _ hP
  have nofr : ∀ f, s.heap.objs.size ≤ f → f ∉ frs X.stack := fun f hf z => by
    rcases List.mem_cons.mp (I.stkSub _ z) with e | e
    · have h1 := I.lt
      rw [← e] at h1
      exact Nat.lt_irrefl _ (Nat.lt_of_lt_of_le h1 hf)
    · exact I.nofs hf e
  cases hc : codeAmong pos ps.toList with
  | none =>
    refine PySem.W.kla_makeFunction (mg := X.mg) (c := c) (P := P) (ps := ps) (closure_ok hfree) I.ok.glob (I.mod.glob.keeps I.bk) hcode (TB.code.keeps I.bk) hP' ht hc TB.gP bP fun c' ctv h' tk hx hge hlt hrec htb => ?_
    obtain ⟨c2, oc, vs, t, e2, hoc, hd, hv⟩ := hrec
    cases e2
    have hsz : s.heap.objs.size ≤ h'.objs.size := Nat.le_trans hge (Nat.le_of_lt hlt)
    have nC : H c' = none := I.hok.fresh hge
    have I1 := LamX.inv_table (t' := tk) (more := #[rawInt pos.line, rawInt pos.col, .ref c']) (h' := h'.push (PySem.W.kla_obj "<lambda>" (X.env.qual ++ "<lambda>") params body scope (cloFrom X.env.cells scope.names []) ((X.mg "__name__").getD .none) c' ctv)) I hP
      (fun b o hb e => Heap.get?_push_of_some _ (hx b o hb e)) (Heap.get?_push_of_some _ htb) hge ⟨oc, vs, t, Heap.get?_push_of_some _ hoc, hd, hv⟩
    have hE : LamX.ExtN H (upd (upd H P (.tbl (ps ++ #[rawInt pos.line, rawInt pos.col, .ref c']))) c' (LamX.CodeO c' (X.env.qual ++ "<lambda>"))) := fun b o e n => by
      rw [upd_ne (ne_of_none e nC), upd_ne (fun z => n ps (Option.some.inj (e.symm.trans (by rw [z]; exact hP))))]
      exact e
    have eL : (ps ++ #[rawInt pos.line, rawInt pos.col, .ref c']).toList = ps.toList ++ [rawInt pos.line, rawInt pos.col, .ref c'] := by simp
    refine h h'.objs.size c' ((X.mg "__name__").getD .none) ctv _ _ I1 hE (fun b qs e => by
      by_cases hb : b = P
      · rw [hb]; exact ⟨_, by rw [upd_ne (ne_of_none hP nC), upd_same]⟩
      · exact ⟨qs, by rw [upd_ne (ne_of_none e nC), upd_ne hb]; exact e⟩) (fun p hp => ?_) (Heap.get?_push_size _ rfl) ?_ (nofr _ hsz) upd_same
    · by_cases hb : p.1 = P
      · rw [hu p hp hb, hb]
        refine ⟨_, by rw [upd_ne (ne_of_none hP nC), upd_same], by rw [eL]; exact PySem.TriplesOk_snoc _ _ _ _ ht, fun p' cv hcv => ?_⟩
        rw [eL] at hcv
        rcases LamX.among_app _ ht hcv with z | z
        · obtain ⟨c0, e1, e2⟩ := ha p' cv z
          exact ⟨c0, e1, hE _ _ e2 LamX.codeO_ne⟩
        · exact ⟨c', z, upd_same⟩
      · obtain ⟨ps', a1, a2, a3⟩ := hT p hp
        refine ⟨ps', by rw [upd_ne (ne_of_none a1 nC), upd_ne hb]; exact a1, a2, fun p' cv hcv => ?_⟩
        obtain ⟨c0, e1, e2⟩ := a3 p' cv hcv
        exact ⟨c0, e1, hE _ _ e2 LamX.codeO_ne⟩
    · have n1 : h'.objs.size ≠ c' := Nat.ne_of_gt hlt
      have n2 : h'.objs.size ≠ P := Nat.ne_of_gt (Nat.lt_of_lt_of_le (Heap.lt_size hP') hsz)
      rw [upd_ne n1, upd_ne n2]
      exact I.hok.fresh hsz
  | some cv =>
    obtain ⟨c', e, hco⟩ := ha pos cv hc
    subst e
    refine PySem.W.kla_makeFunctionHit (mg := X.mg) (c := c) (P := P) (ps := ps) (closure_ok hfree) I.ok.glob (I.mod.glob.keeps I.bk) hcode (TB.code.keeps I.bk) hP' ht hc bP fun ctv h' tk hx hsz => ?_
    have I1 : Inv X pins σ H { s with heap := h'.push (PySem.W.kla_obj "<lambda>" (X.env.qual ++ "<lambda>") params body scope (cloFrom X.env.cells scope.names []) ((X.mg "__name__").getD .none) c' ctv), toks := tk } := I.kept fun b o e => Heap.get?_push_of_some _ (hx b o e)
    exact h h'.objs.size c' ((X.mg "__name__").getD .none) ctv H _ I1 (LamX.ExtN.refl H) (fun a ps e => ⟨ps, e⟩) hT (Heap.get?_push_size _ rfl) (I.hok.fresh hsz) (nofr _ hsz) hco
end
/-- as LamX.tLam, the tables kept tables -/
def tLamT (T : List (Addr × Str)) (TT : (XK → Hp → VK → Prop) → Hp → VK → Prop) (t : XK → TE) : TE := fun σ H Q => LamX.Tabs T H ∧ ∀ H1, LamX.ExtN H H1 → (∀ a ps, H a = some (.tbl ps) → ∃ ps', H1 a = some (.tbl ps')) → LamX.Tabs T H1 → TT (fun E H' Q' => t E σ H' Q') H1 Q
section
variable {X : Cx}
/-- the def that calls what it got -/
def GivesN (X : Cx) (Ng : List Str) (x : Str) (sg : Scope) (g : Addr) (cdg : Value) (bg : List Stmt) (a : Str) (q : Str) (k : Nat) (TT : (XK → Hp → VK → Prop) → Hp → VK → Prop) : Prop :=
  ∀ (f c' : Addr) (s : Shared) (H : Hp) (Q : VK) (tl : XK → Hp → VK → Prop), Room k (X.A.deeper (PyProof.Rows.envOfC x sg s.heap.objs.size g cdg)) →
    (∀ (W : WX) (pn : List (Addr × Obj)) (xe : Value → Shared → Prop) (E : XK) (p1 p2 : Pos), L2N.Takes ((cxOf C8.CX0 X.prog X.w X.K X.mg X.base Ng x sg g cdg X.A X.stack s H C8.E0).tr pn xe) W → (∀ cls d σ' H', E cls d H' → W cls d σ' H') →
      PE ((cxOf C8.CX0 X.prog X.w X.K X.mg X.base Ng x sg g cdg X.A X.stack s H C8.E0).tr pn xe) (.Call (.Name a p1) [] [] p2) (fun σZ HZ Q => σZ[0]? = some (some (.ref f)) ∧ HZ c' = some (LamX.CodeO c' q) ∧ tl E HZ Q)) →
    H c' = some (LamX.CodeO c' q) → TT tl H Q →
    ∃ t, PSs (cxOf C8.CX0 X.prog X.w X.K X.mg X.base Ng x sg g cdg X.A X.stack s H C8.E0).nox bg t ∧ t { nx := fun _ H' => Q .non H', rt := Q } (L2.start Ng [.ref f]) H
theorem pe_lamcallN {T : List (Addr × Str)} {TT : (XK → Hp → VK → Prop) → Hp → VK → Prop} {x a : Str} {g c P : Addr} {k : Nat} {pg : Arguments} {bg : List Stmt} {sg : Scope} {dV kV doc pm cdv ct oc : Value} {an od : Option Addr} {osl : Array (Option Value)} {Ng : List Str}
    {params : Arguments} {body : Expr} {scope : Scope} {t : XK → TE} {p lpos pos : Pos} (hg : Gl X x) (hm : X.mg x = some (.ref g)) (hk : PySem.W.keepIn X.K (.ref g) = true)
    (lk : X.K.lookup g = some ⟨oc, od, .func (PySem.W.fnOf x x pg bg sg dV kV doc pm an cdv ct), osl⟩) (hcg : PySem.W.codeIn X.K cdv x = true) (hb : L2.Binds X.K (PySem.W.fnOf x x pg bg sg dV kV doc pm an cdv ct) [a] []) (Sg : FnScope Ng [a] sg) (hNg : Ng[0]? = some a) (hva : Vis sg a)
    (hG : GivesN X Ng x sg g cdv bg a (X.env.qual ++ "<lambda>") (k + 1) TT)
    (TB : LamX.TabB X.base X.mg c P) (hcode : X.env.code = .ref c) (hmT : (P, X.env.qual ++ "<lambda>") ∈ T) (hu : ∀ p ∈ T, p.1 = P → p.2 = X.env.qual ++ "<lambda>") (hr : Room (k + 2) X.A) (L : LamX.LamS X.env.scope scope) (hdef : defaultsOf params X.env = ([], []))
    (hbind : ∀ (q : Str) (cl : List (Str × Addr)) (pm cv ctv : Value), bindArgs (PySem.W.kla_fn "<lambda>" q params body scope cl pm cv ctv) ⟨[], []⟩ = pure [])
    (hbody : ∀ (A : Around) (outer : List Env) (s : Shared) (H : Hp) (E : XK) (f c' : Addr), Room k (A.deeper (LamX.lamEnv X scope s.heap.objs.size f c')) → PE (lamN X A outer s H E scope f c') body (t E))
    (hdb : (x == ("__debug__" : Str)) = false := by decide) (hd : (a == ("__debug__" : Str)) = false := by decide) (hcd : (a == ("__classdict__" : Str)) = false := by decide) :
    PE X (.Call (.Name x p) [.Lambda params body scope lpos] [] pos) (tLamT T TT t) := by
  refine ⟨fun pins s σ H Q I h => ?_⟩
  obtain ⟨hT, h⟩ := h
  refine wpAny_Call_Name_kw (ld_glob I hg hm ?_ hdb)
  refine PySem.W.callWith_K (h₀ := X.base) I.ok.mod.kin hk ?_ (by rfl) (by rfl)
  show wpAny _ _ (spliced ((false, eval (.Lambda params body scope lpos) X.env) :: backTo pos (starEach [] X.env))) _ _ s
  refine Calls.spliced_cons (lam_make3 I TB hcode hmT hu hT hdef (L.has I.ok) fun f c' pm' ctv H1 s' I1 eN eT T1 hf hfn hfr hco => ?_)
  refine Calls.spliced_nil ⟨I1.kIn, ?_⟩
  have rc : codeAny (model X.prog X.w) X.A (.call (.ref g) ⟨[.ref f], []⟩) (CR C8.CX0 X.stack X.prog X.w H1 s' Q C8.E0) s' := by
    refine LamX.run_ofS (N := Ng) (ps := [a]) (us := [.ref f]) (vs := [.ref f]) lk hcg Sg hr I1.env0 (hb s' [.ref f] I1.kIn rfl) (.cons rfl .nil) rfl fun hr' => ?_
    obtain ⟨t', ht', hq'⟩ := hG f c' s' H1 Q (fun E H' Q' => t E σ H' Q') hr' (fun W pn xe E p1 p2 tk hW => pe_actN (i := 0) I1 L hf hfn hfr (hbind _ _ _ _ _) tk hW hr' (fun A outer s H hr2 => hbody A outer s H E f c' hr2) hNg hva hd hcd) hco (h H1 eN eT T1)
    exact ⟨t', ht'.nox, hq'⟩
  refine wpAny_call (codeAny_mono rc fun r s2 hq => ?_)
  cases r with
  | error e => exact (show False from hq).elim
  | ok fl =>
    cases fl with
    | ret u => exact I1.after hq
    | next => exact False.elim hq
    | brk => exact False.elim hq
    | cont => exact False.elim hq
end
end Mi
set_option Elab.async false
set_option linter.all false
set_option maxRecDepth 100000
set_option maxHeartbeats 4000000
namespace Mi
open PySem L2
/-! ### told -/
/-- what the def that names a refusal wants and gives -/
def TermR (Kd : Value → Str → Prop) (cls : Value) (H : Hp) (Q : VK) : Prop := ∃ name, Kd cls name ∧ ∀ q o H', (∀ b u, H b = some u → H' b = some u) → H q = none → H' q = some (.frz o (.tup [.str "refused", .str name])) → o.dict = none → Q (.ref q) H'
structure TermOk (P : Program) (w : World) (K : Fg) (mg : Str → Option Value) (base : Heap) (k : Nat) (f : Addr) (fd : FuncData) (Kd : Value → Str → Prop) : Prop where
  run : ∀ (A : Around) (outer : List Env) (s : Shared) (H : Hp) (args : Args) (Q : VK) (p : Addr × Obj) (cls : Value), L2H.RoomH k A → L2H.Hot1 A p → L2H.PinOk outer H s p → L2N.Zn cls none p.2 → (∃ vs, p.2.data = .fields vs) → Env0 P w K mg base A outer s H → BindsTo s fd args [("_law_e", .ref p.1)] → TermR Kd cls H Q →
    codeAny (model P w) A (.call (.ref f) args) (CR C8.CX0 outer P w H s Q C8.E0) s
section
variable {X : Cx} {Kd : Value → Str → Prop}
theorem pe_term {f a : Addr} {fd : FuncData} {oe : Obj} {cls : Value} {pn : List (Addr × Obj)} {k i : Nat} {q xp pos : Pos} (F : TermOk X.prog X.w X.K X.mg X.base k f fd Kd) (hr : L2H.RoomH k (X.A.mark (some (.ref a)))) (hz : L2N.Zn cls none oe) (hv : ∃ vs, oe.data = .fields vs)
    (hg : Gl X "_law_term") (hm : X.mg "_law_term" = some (.ref f)) (hk : PySem.W.keepIn X.K (.ref f) = true) (hb : Binds X.K fd ["_law_e"] []) (hN : X.N[i]? = some "_law_e") (hvis : Vis X.env.scope "_law_e") :
    PE (X.suite a ((a, oe) :: pn)) (.Call (.Name "_law_term" q) [.Name "_law_e" xp] [] pos) (fun σ H Q => σ[i]? = some (some (.ref a)) ∧ TermR Kd cls H Q) := by
  refine ⟨fun pins s σ H Q I h => ?_⟩
  obtain ⟨h0, h⟩ := h
  have ha : PA (X.suite a ((a, oe) :: pn)) [.Name "_law_e" xp] (tCons (tVar i) tNil) := pa_cons (pe_var (X := X.suite a ((a, oe) :: pn)) (i := i) hN hvis) pa_nil
  refine wpAny_Call_Name_kw (ld_glob (X := X.suite a ((a, oe) :: pn)) I hg hm ?_ (by decide))
  refine PySem.W.callWith_K (h₀ := X.base) I.ok.mod.kin hk (thn (ha.run pos pins s σ H (fun vs H1 => vs = [.ref a] ∧ H1 = H) I ⟨_, h0, rfl, rfl⟩) fun us s1 ⟨vs, H1, I1, r, e1, e2⟩ => ⟨I1.kIn, ?_⟩)
  subst e1 e2
  obtain ⟨u, rfl, ru⟩ := Vals.one r
  cases ru
  obtain ⟨vs, hvs⟩ := hv
  have hot : L2H.Hot1 (X.suite a ((a, oe) :: pn)).A (a, oe) := ⟨rfl, vs, hvs, hz.2.2 vs hvs⟩
  have P1 := I1.pin (a, oe) (List.mem_append_left _ List.mem_cons_self)
  have hpin : L2H.PinOk X.stack H1 s1 (a, oe) := ⟨P1.1, P1.2.1, fun hmm => (List.mem_cons.mp (I1.stkSub a hmm)).elim P1.2.2.1 P1.2.2.2.1, P1.2.2.2.2⟩
  have b := hb s1 [.ref a] I1.kIn rfl
  refine wpAny_call (codeAny_mono (F.run _ X.stack s1 H1 ⟨[.ref a], []⟩ Q (a, oe) cls hr hot hpin hz ⟨vs, hvs⟩ I1.env0 b h) fun r s' hq => ?_)
  cases r with
  | error e => exact (show False from hq).elim
  | ok fl =>
    cases fl with
    | ret u => exact I1.after hq
    | next => exact False.elim hq
    | brk => exact False.elim hq
    | cont => exact False.elim hq
theorem L2N_takes0 {X : Cx} : L2N.Takes X (fun _ _ _ _ => False) := fun _ _ ⟨_, _, _, _, _, _, _, _, _, _, _, _, _, _, _, _, w⟩ => w.elim
def TTold2 (K : Fg) (c1 c2 : Value) (Kd : Value → Str → Prop) : (XK → Hp → VK → Prop) → Hp → VK → Prop := fun tl H Q =>
  tl (fun cls d H' => PySem.W.exmOne K cls c1 = some false ∧ PySem.W.exmOne K cls c2 = some true ∧ d = none ∧ TermR Kd cls H' Q) H Q
theorem told_givesN {sg : Scope} {g CS TM f : Addr} {fd : FuncData} {cdg : Value} {k j : Nat} {q : Str} {su1 : List Stmt} {b1 : Stmt} {p1 p2 p3 p4 p5 p6 p7 p8 p9 p10 p11 p12 : Pos} (F : TermOk X.prog X.w X.K X.mg X.base j f fd Kd) (hj : j ≤ k)
    (hgT : sg.names.lookup ("TooMuch" : Str) = some .globalImplicit) (hgC : sg.names.lookup ("CastError" : Str) = some .globalImplicit) (hgt : sg.names.lookup ("_law_term" : Str) = some .globalImplicit) (hle : sg.names.lookup ("_law_e" : Str) = some .local)
    (hmT : X.mg "TooMuch" = some (.ref TM)) (hmC : X.mg "CastError" = some (.ref CS)) (hmt : X.mg "_law_term" = some (.ref f)) (hk : PySem.W.keepIn X.K (.ref f) = true) (hb : Binds X.K fd ["_law_e"] []) :
    GivesN X ["_law_deed", "_law_e"] "_law_told" sg g cdg [.Try [.Return (some (.Call (.Name "_law_deed" p1) [] [] p2)) p3] [.ExceptHandler (some (.Name "TooMuch" p4)) (some "_law_e") (b1 :: su1) p5, .ExceptHandler (some (.Name "CastError" p6)) (some "_law_e") [.Return (some (.Call (.Name "_law_term" p7) [.Name "_law_e" p8] [] p9)) p10] p11] [] [] p12] "_law_deed" q k (TTold2 X.K (.ref TM) (.ref CS) Kd) := by
  intro f0 c' s H Q tl hroom act hc h
  refine ⟨_, pss_one (ps_try_asL (X := (cxOf C8.CX0 X.prog X.w X.K X.mg X.base ["_law_deed", "_law_e"] "_law_told" sg g cdg X.A X.stack s H C8.E0).nox) (n := "_law_e") (i := 1) (Wout := fun _ _ _ _ => False)
      (tb := fun W D σ H => ∃ Ech : XK, (∀ cls d σ' H', Ech cls d H' → W cls d σ' H') ∧ σ[0]? = some (some (.ref f0)) ∧ H c' = some (LamX.CodeO c' q) ∧ tl Ech H D.rt)
      rfl rfl (by show (["_law_deed", "_law_e"] : List Str).Nodup; decide) rfl hle L2N_takes0 (fun W pn xe tk _ => ?_)
      (.cons (c := .ref TM) (ts := fun _ _ _ _ _ _ => False) ⟨hgT, by decide, .inl hmT⟩ (fun _ _ _ _ _ _ _ => ⟨fun _ _ _ _ _ _ z => z.elim⟩)
        (.cons (c := .ref CS) (ts := fun a cls d D σ H => d = none ∧ (1 < σ.length → σ[1]? = some (some (.ref a))) ∧ TermR Kd cls H D.rt) ⟨hgC, by decide, .inl hmC⟩ (fun a oe cls d pn hz hv => ?_) .nil))), ?_⟩
  · refine ⟨fun pins s' σ H' D I h' => ?_⟩
    obtain ⟨Ech, hW, h1, h2, h3⟩ := h'
    have hp := act W pn xe Ech p1 p2 tk hW
    exact (pss_one (ps_ret (pos := p3) hp)).run pins s' σ H' D I ⟨h1, h2, h3⟩
  · refine ⟨fun pins s' σ H' D I ⟨hd, h1, h2⟩ => ?_⟩
    subst hd
    have hp := pe_term (X := (cxOf C8.CX0 X.prog X.w X.K X.mg X.base ["_law_deed", "_law_e"] "_law_told" sg g cdg X.A X.stack s H C8.E0).nox) (a := a) (pn := pn) (i := 1) (q := p7) (xp := p8) (pos := p9) F ⟨((L2H.roomH_of hroom).mono hj).dp, ((L2H.roomH_of hroom).mono hj).un⟩ hz hv hgt hmt hk hb rfl (.inl hle)
    exact (pss_one (ps_ret (pos := p10) hp)).run pins s' σ H' D I ⟨h1 (by rw [I.len]; show 1 < 2; decide), h2⟩
  · refine ⟨fun cls d H' => PySem.W.exmOne X.K cls (.ref TM) = some false ∧ PySem.W.exmOne X.K cls (.ref CS) = some true ∧ d = none ∧ TermR Kd cls H' Q, fun cls d σ' H' ⟨e1, e2, e3, e4⟩ => ⟨false, e1, fun z => (nomatch z), fun _ => ⟨true, e2, fun _ a _ => ⟨e3, fun hl => List.getElem?_set_self (by simpa using hl), e4⟩, fun z => (nomatch z)⟩⟩, rfl, hc, h⟩
end
/-! ### _law_told(lambda: body) as a mirror -/
def toldX (ns : List Str) (e : Exn) : Res D := match e.lacks with
  | none => if e.cls ∈ ns then .ok (.tuple [.str "refused", .str e.cls]) else .stuck
  | some _ => .stuck
def toldK (ns : List Str) (o : Out D) : Out D := match o with
  | .ok d ρ => .ok d ρ
  | .exn e ρ => lift (toldX ns e) ρ
  | .stuck => .stuck
def toldE (ns : List Str) (f : MM D) : MM D := fun ρ => toldK ns (f ρ)
/-- what is known of a class that refusals bear -/
def KdOf (K : Fg) (ns : List Str) : Value → Str → Prop := fun cls name => name ∈ ns ∧ cls = .ref (He.ga K name)
theorem told_to {K : Fg} {T : Tb} {c : Gh} {W : WX} {c1 c2 : Value} {ns : List Str} {f : MM D} (hx : ∀ x ∈ ns, PySem.W.exmOne K (.ref (He.ga K x)) c1 = some false ∧ PySem.W.exmOne K (.ref (He.ga K x)) c2 = some true) (σ : St) (H : Hp) (Q : VK) (h : mE K T c W (toldE ns f) σ H Q) : tLamT T (TTold2 K c1 c2 (KdOf K ns)) (fun E => mE K T c (fun cls d _ H => E cls d H) f) σ H Q := by
  obtain ⟨G, ρ, j, p⟩ := h
  refine ⟨j.tb, fun H1 eN eT T1 => ?_⟩
  have j1 : J K T c G H1 σ ρ := j.after ⟨Le.refl G, fun a o e => eN a o (j.sub a o e) (fun ps z => j.nt a ps (by rw [e, z])), fun _ e _ => e, eN, eT, T1, j.nt, rfl⟩
  refine ⟨G, ρ, j1, ?_⟩
  have p2 : pX K T c W (relD K) σ G Q (toldK ns (f ρ)) := p
  cases z : f ρ with
  | ok d ρ' => rw [z] at p2; exact p2
  | stuck => rw [z] at p2; exact p2.elim
  | exn e ρ' =>
    rw [z] at p2
    intro cls dx G' H' l j' i
    obtain ⟨i1, i2⟩ := i
    unfold toldK toldX at p2
    cases hl : e.lacks with
    | some n => simp only [hl] at p2; exact p2.elim
    | none =>
      simp only [hl] at p2 i2
      by_cases hm : e.cls ∈ ns
      case neg => rw [if_neg hm] at p2; exact p2.elim
      rw [if_pos hm] at p2
      obtain ⟨x1, x2⟩ := hx _ hm
      refine ⟨by rw [i1]; exact x1, by rw [i1]; exact x2, i2, e.cls, ⟨hm, i1⟩, fun q o H'' eb hq hh ho => ?_⟩
      have hG : G' q = none := j'.fresh hq
      have jg : J K T c (wupd G' q (.frz o (.tup [.str "refused", .str e.cls]))) H'' σ ρ' := by
        refine j'.after ⟨Le.upd hG, fun a u ea => ?_, fun a ga ha => ?_, fun a u ea _ => eb a u ea, fun a ps ea => ⟨ps, eb a _ ea⟩, j'.tb.ext eb, fun a ps ea => ?_, rfl⟩
        · have ea : upd G'.hp q _ a = _ := ea
          by_cases y : a = q
          · rw [y, upd_same] at ea; rw [y, hh]; exact ea
          · rw [upd_ne y] at ea; exact eb a u (j'.sub a u ea)
        · show upd G'.hp q _ a = none
          by_cases y : a = q
          · rw [y] at ha; exact absurd hq ha
          · rw [upd_ne y]; exact ga
        · have ea : upd G'.hp q _ a = _ := ea
          by_cases y : a = q
          · rw [y, upd_same] at ea; cases ea
          · rw [upd_ne y] at ea; exact j'.nt a ps ea
      exact p2 _ _ _ (l.trans (Le.upd hG)) jg (.tup (.inl ⟨o, upd_same, ho⟩) (.cons (.str _) (.cons (.str _) .nil)))
section
variable {X : Cx} {T : Tb} {c : Gh} {W : WX}
/-- raise x('..'), x an own class of refusals -/
def raiseS (x : Str) : MM Fl := fun ρ => .exn ⟨x, none⟩ ρ
theorem ms_raise {x m : Str} {j : Nat} {p p2 pos pos' : Pos} (hc : X.calm = true) (tk : L2N.Takes X W) (fx : (He.Fa.exc x).ok X.K = true) (gC : X.mg x = some (.ref (He.ga X.K x))) (hg : Gl X x) (hdb : (x == ("__debug__" : Str)) = false := by decide) :
    PS X (.Raise (some (.Call (.Name x p) [.Constant (.str m) j p2] [] pos)) none pos') (mS X.K T c W (raiseS x)) := by
  obtain ⟨e1, e2, e3, e4⟩ := He.exc_ok fx
  refine ps_mono (L2N.ps_raise hc tk (L2N.pmk_own PySem.F.excBase_ValueError e1 gC e2 (raises_own e3 e4) hg hdb)) fun Dn σ H ⟨G, ρ, jj, pp⟩ => pp _ none σ G H (Le.refl G) jj ⟨rfl, rfl⟩
end
end Mi
set_option Elab.async false
set_option linter.all false
set_option maxRecDepth 100000
set_option maxHeartbeats 4000000
namespace Mi
open PySem L2
/-! ### the def that names a refusal -/
section
variable {P : Program} {w : World} {K : Fg} {mg : Str → Option Value} {base : Heap} {Kd : Value → Str → Prop}
theorem term_of {st : Stmt} {f : Addr} {fd : FuncData} {N : List Str} {k : Nat} (F : Fun K "_law_term" "_law_term" st f fd) (S : FnScope N ["_law_e"] (defScope st))
    (hbody : ∀ (cdv : Value) (A : Around) (outer : List Env) (s : Shared) (H : Hp) (Q : VK) (p : Addr × Obj) (cls : Value), L2H.Hot1 A p → L2H.RoomH k (A.deeper (PyProof.Rows.envOfC "_law_term" (defScope st) s.heap.objs.size f cdv)) → L2N.Zn cls none p.2 → (∃ vs, p.2.data = .fields vs) → TermR Kd cls H Q →
      ∃ t, PSs (L2H.cxH C8.CX0 P w K mg base N "_law_term" (defScope st) f cdv A outer s H C8.E0 p) (defBody st) t ∧ t { nx := fun _ H' => Q .non H', rt := Q } (L2.start N [.ref p.1]) H) : TermOk P w K mg base (k + 1) f fd Kd := by
  obtain ⟨oc, od, kV, doc, pm, an, cdv, ct, osl, rfl, lk, hcd⟩ := F.ex
  refine ⟨fun A outer s H args Q p cls hr hot hpin hz hv e0 hb hsp => ?_⟩
  have KX : K.In s.heap := e0.mod.kin.keeps fun b o e => (e0.bs b o e).1
  have lim : s.heap.NoLimit := e0.mod.nolimit.keeps fun b o e => (e0.bs b o e).1
  have hkind : ∀ y ∈ (["_law_e"] : List Str).zip [Value.ref p.1], (defScope st).names.lookup y.1 = some .local ∨ ((defScope st).names.lookup y.1 = some .cell ∧ ((cellsFrom (s.heap.objs.size + 1) (defScope st).names []).lookup y.1).isSome = true) := fun ⟨n, v⟩ hy => by
    rcases S.par n (List.of_mem_zip hy).1 with q | q
    · exact .inl q
    · exact .inr ⟨q, PySem.W.cellsFrom_some _ _ _ (.inl q)⟩
  refine codeAny_call_function hr.depth (KX _ _ lk) rfl S.co S.gen rfl (PySem.W.codeRec_of KX hcd) (hb _ _ _ _ ?_)
  refine wpAny_newFunctionEnv_cells S.kind hkind fun env he s1 x => ?_
  subst he
  refine ⟨lim.keeps x.toInCall.keep, codeAny_func ?_⟩
  obtain ⟨t, ht, hq⟩ := hbody cdv A outer s H Q p cls hot (hr.deeper _) hz hv hsp
  have I : Inv (L2H.cxH C8.CX0 P w K mg base N "_law_term" (defScope st) f cdv A outer s H C8.E0 p) [] (L2.start N [.ref p.1]) H s1 := L2H.inv_startH S hpin e0 rfl (.cons rfl .nil) x
  refine wpAny_mono (ht.run [] s1 (L2.start N [.ref p.1]) H _ I hq) (fun fl s' hs => ?_) fun e s' hs => hs
  have fin : ∀ {σ' : L2.St} {H' : Hp} {v : V} {u : Value}, Inv (L2H.cxH C8.CX0 P w K mg base N "_law_term" (defScope st) f cdv A outer s H C8.E0 p) [] σ' H' s' → RelV v u → Q v H' → CE outer P w H s Q u s' := fun {σ' H' v u} J rv q => ⟨v, H', J.os, J.bare, J.base, J.hok, rv, q⟩
  cases fl with
  | ret u => obtain ⟨v, σ', H', J, rv, q⟩ := hs; exact fin J rv q
  | next => obtain ⟨σ', H', J, q⟩ := hs; exact fin (v := V.non) (u := Value.none) J rfl q
  | brk => obtain ⟨_, _, _, q⟩ := hs; exact False.elim q
  | cont => obtain ⟨_, _, _, q⟩ := hs; exact False.elim q
end
section
variable {X : Cx}
/-- isinstance(e, c), e the exception that is handled -/
theorem call_isP {p : Addr × Obj} {D : Addr} (C : ExcC X.K D) (hp : p ∈ X.pn) (hz : L2N.Zn (.ref D) none p.2) (hf : ∃ vs, p.2.data = .fields vs) : CallR X (.builtin "isinstance") (rIsE X.K D p.1) := by
  intro pins s σ H xs us Q I r h
  obtain ⟨c, cv, b, rfl, hcv, e, q⟩ := h
  obtain ⟨u, v, rfl, rx, rt⟩ := Vals.two r
  cases rx
  have ec := hcv _ rt
  subst ec
  obtain ⟨hget, _⟩ := I.pin p (List.mem_append_left _ hp)
  obtain ⟨vs, hv⟩ := hf
  have J : PySem.W.InstAt s.heap p.1 p.2 D none := by
    obtain ⟨a, oc, od, oda, osl⟩ := p
    obtain ⟨h1, h2, _⟩ := hz
    dsimp only at h1 h2 hv hget
    subst h1 h2 hv
    exact ⟨hget, rfl, rfl, trivial⟩
  exact PySem.W.kia_one (PySem.W.handS_kitx_exc C.hg C.hk C.hs C.hd C.ha C.hn C.ht C.hm) I.kIn J e (fun z => nomatch z) fun tk => ⟨.bl b, H, I.kept (t' := tk) fun _ _ z => z, rfl, q⟩
def tIsI (a : Addr) (b : Bool) : TE := fun σ H Q => σ[0]? = some (some (.ref a)) ∧ Q (.bl b) H
theorem pe_isP {p : Addr × Obj} {D C : Addr} {c : Str} {b : Bool} {p1 p2 p3 pos : Pos} (E : ExcC X.K D) (hp : p ∈ X.pn) (hz : L2N.Zn (.ref D) none p.2) (hf : ∃ vs, p.2.data = .fields vs) (hk : PySem.W.kitOne X.K (.ref D) (.ref C) = some b) (hg : Gl X "isinstance") (hm : X.mg "isinstance" = none) (hgC : Gl X c) (hmC : X.mg c = some (.ref C)) (hN : X.N[0]? = some ("_law_e" : Str)) (hv : Vis X.env.scope "_law_e") (hdc : (c == ("__debug__" : Str)) = false := by decide)
    (he : starEach [.Name "_law_e" p1, .Name c p2] X.env = (false, eval (.Name "_law_e" p1) X.env) :: starEach [.Name c p2] X.env := by rfl) (he2 : starEach [.Name c p2] X.env = (false, eval (.Name c p2) X.env) :: starEach [] X.env := by rfl) (hpl : (backTo pos (starEach [.Name c p2] X.env)).any (·.1) = false := by rfl) :
    PE X (.Call (.Name "isinstance" p3) [.Name "_law_e" p1, .Name c p2] [] pos) (tIsI p.1 b) := by
  refine pe_mono (pe_callB (call_isP E hp hz hf) hg hm bt_isinstance (pa_cons (pe_var (i := 0) hN hv) (pa_cons (pe_glob (v := V.ref C) hgC hmC rfl hdc) pa_nil he2) he) (by decide) (by decide) he hpl) fun σ H Q ⟨h1, h2⟩ => ?_
  exact ⟨_, h1, .ref C, .ref C, b, rfl, fun u r => r, hk, h2⟩
end
/-! ### sum of a list while an exception is handled -/
section
variable {prog : Program} {w : World} {A : Around} {E : Value → Shared → Prop} {s : Shared}
theorem sum_hotG {l x1 : Addr} {xs : Array (Int × Tok)} {Q : Value → Shared → Prop} (hot : HotX.HotAt A x1 s.heap) (hl : s.heap.IsList l (intItems xs))
    (h : ∀ h' tk t', (∀ b o, s.heap.get? b = some o → h'.get? b = some o) → Q (.int (preSum (numAt xs) xs.size) t') { s with heap := h', toks := tk }) :
    wpAny (model prog w) A (call (.builtin "sum") [.ref l]) Q E s := by
  refine call_sum_walkG (iter_intList hl fun s₂ e st hfp hlI => ?_)
  subst e
  obtain ⟨h0, o, vs, h1, h2⟩ := hot
  have hlt := Heap.lt_size h1
  refine ⟨_, _, _, _, _, _, numAt xs, rfl, walks_hot (A := A.in1) (x1 := x1) h0 hlI (Nat.ne_of_lt hlt) (intItems xs), ⟨st.1, st.2, h0, o, vs, Heap.get?_push_of_some _ h1, h2⟩, fun b hb => ?_, (fun _ _ => intItems_at), fun h' tk t' hk => ?_⟩
  · rcases List.mem_cons.mp hb with e | hb
    · exact hfp b (by simp [e])
    · rcases List.mem_cons.mp hb with e | hb
      · exact hfp b (by simp [e])
      · rcases List.mem_cons.mp hb with e | hb
        · rw [e]
          exact Heap.lt_size (Heap.get?_push_of_some _ h1)
        · cases hb
  · have := h h' tk t' (old_kept hk)
    simpa [intItems] using this
end
section
variable {X : Cx}
theorem call_sumP (hot : L2H.HotC X) : CallR X (.builtin "sum") (rSum X.K) := by
  intro pins s σ H vs us Q I r h
  obtain ⟨a, ns, rfl, hs, q⟩ := h
  obtain ⟨its, rv, hl, _⟩ := I.list hs
  rw [Vals.ref1 r]
  obtain ⟨x1, hat⟩ := hot.at I
  have hi := rv.ints
  obtain ⟨xs, e⟩ := hi.allInts.items
  have hn : numsOf (intItems xs).toList = ns := by rw [← e]; exact hi.numsOf
  rw [nums_intItems] at hn
  have hl2 := hl.isList
  rw [e] at hl2
  refine sum_hotG hat hl2 fun h' tk t' hk => ?_
  rw [preSum_eq, List.take_of_length_le (by simp), hn]
  exact ⟨.int _, H, I.kept hk, ⟨_, rfl⟩, q⟩
end
end Mi
set_option Elab.async false
set_option linter.all false
set_option maxRecDepth 100000
set_option maxHeartbeats 4000000
namespace Mi
open PySem L2
/-! ### the reading of the def that names a refusal -/
def tIsL (a : Addr) : List Bool → TA
  | [] => tNil
  | b :: bs => tCons (tIsI a b) (tIsL a bs)
def tStrs : List Str → TA
  | [] => tNil
  | x :: xs => tCons (tC (.str x)) (tStrs xs)
theorem isL_reads {a : Addr} {σ : St} {H : Hp} (h0 : σ[0]? = some (some (.ref a))) : ∀ {bs : List Bool} {Q : List V → Hp → Prop}, Q (bs.map V.bl) H → tIsL a bs σ H Q
  | [], Q, q => q
  | b :: bs, Q, q => ⟨h0, isL_reads h0 (bs := bs) q⟩
theorem strs_reads {σ : St} {H : Hp} : ∀ {xs : List Str} {Q : List V → Hp → Prop}, Q (xs.map V.str) H → tStrs xs σ H Q
  | [], Q, q => q
  | x :: xs, Q, q => strs_reads (xs := xs) q
def oneOf (bs : List Bool) : List Int := bs.map fun b => if b then 1 else 0
/-- the sum of the flags -/
abbrev tSumF (K : Fg) : TE := tCB (rSum K) (tCons (tLc (iLst K (tVar 1)) (gName 3) tYes (tCB (fun xs H Q => (∃ i, xs = [V.int i] ∧ Q (.int i) H) ∨ ∃ k, xs = [V.bl k] ∧ Q (.int (if k then 1 else 0)) H) (tCons (tVar 3) tNil)) [3]) tNil)
def tTerm (K : Fg) (a : Addr) (ve : Bool) (b1 b2 b3 b4 b5 : List Bool) (k1 k2 : List Str) : TS :=
  tSeq (tAsg (tLst (tIsL a b1)) (gName 1)) (tSeq (tAsg (tOp rCatL (tVar 1) (tLst (tIsL a b2))) (gName 1)) (tSeq (tAsg (tOp rCatL (tVar 1) (tLst (tIsL a b3))) (gName 1)) (tSeq (tAsg (tOp rCatL (tVar 1) (tLst (tIsL a b4))) (gName 1)) (tSeq (tAsg (tOp rCatL (tVar 1) (tLst (tIsL a b5))) (gName 1))
  (tSeq (tAsg (tLst (tStrs k1)) (gName 2)) (tSeq (tAsg (tOp rCatL (tVar 2) (tLst (tStrs k2))) (gName 2))
  (tSeq (tIfS (tOr (tTest (tOp rNe (tSumF K) (tC (.int 1)))) (tNot (tTest (tIsI a ve)))) (tRet (tTupF (tStrs ["refused", "other"]))) tNext)
  (tRet (tTupF (tCons (tC (.str "refused")) (tCons (tOp (rIxL K) (tVar 2) (tBM K "list" (rIndex K) (tVar 1) (tCons (tC (.bl true)) tNil))) tNil)))))))))))
theorem catL_reads {σ : St} {H : Hp} {i : Nat} {l : Addr} {xs zs : List V} {t : TA} {Q : VK} (h1 : σ[i]? = some (some (.ref l))) (h2 : H l = some (.lst xs)) (hl : xs.length + zs.length ≤ sizeLine) (ht : ∀ {Q : List V → Hp → Prop}, Q zs H → t σ H Q)
    (q : ∀ p H', (∀ b o, H b = some o → H' b = some o) → H' p = some (.lst (xs ++ zs)) → Q (.ref p) H') : tOp rCatL (tVar i) (tLst t) σ H Q := by
  refine ⟨_, h1, ht ⟨by omega, fun p hp => ?_⟩⟩
  have e1 : ∀ b o, H b = some o → upd H p (.lst zs) b = some o := fun b o e => by rw [upd_ne (ne_of_none e hp)]; exact e
  refine ⟨l, p, xs, zs, rfl, rfl, .inl (e1 _ _ h2), .inl upd_same, hl, fun p2 hp2 => q p2 _ (fun b o e => ?_) upd_same⟩
  rw [upd_ne (ne_of_none (e1 _ _ e) hp2)]
  exact e1 _ _ e
theorem sumF_reads {K : Fg} {σ : St} {H : Hp} {l : Addr} {bs : List Bool} {Q : VK} (h1 : σ[1]? = some (some (.ref l))) (hσ : σ.length = 4) (h2 : H l = some (.lst (bs.map V.bl))) (hb : bs.length < 100)
    (q : ∀ H', (∀ b o, H b = some o → H' b = some o) → Q (.int (oneOf bs).sum) H') : tSumF K σ H Q := by
  refine ⟨_, h1, l, rfl, ⟨_, .inl (.inl h2)⟩, fun D hD => ?_⟩
  have up0 : ∀ b o, H b = some o → upd H D (.lst []) b = some o := fun b o e => by rw [upd_ne (ne_of_none e hD)]; exact e
  refine lc_list (xs := bs.map V.bl) (fun i H' => (∀ b o, H b = some o → H' b = some o) ∧ H' D = some (.lst ((oneOf (bs.take i)).map V.int))) ⟨up0, upd_same⟩ (fun i H' _ p => .inl (.inl (p.1 _ _ h2))) (fun i x H' hx ⟨e, hd⟩ => ?_) fun H' ⟨e, hd⟩ => ?_
  · rw [List.getElem?_map] at hx
    cases hbi : bs[i]? with
    | none => rw [hbi] at hx; cases hx
    | some b =>
      rw [hbi] at hx
      cases hx
      have hlen : 3 < (wipe σ [3]).length := by rw [wipe_length, hσ]; decide
      refine ⟨by show ((wipe σ [3]).set 3 (some (.bl b))).set 3 none = wipe σ [3]; rw [List.set_set]; show (σ.set 3 none).set 3 none = σ.set 3 none; rw [List.set_set], ?_⟩
      unfold tYes
      dsimp only
      rw [if_pos rfl]
      refine ⟨_, List.getElem?_set_self hlen, .inr ⟨b, rfl, _, hd, ?_, ?_⟩⟩
      · rw [List.length_map]; unfold oneOf; rw [List.length_map, List.length_take]
        exact Nat.lt_of_le_of_lt (Nat.min_le_right _ _) (Nat.lt_trans hb (by decide))
      · refine ⟨fun b' o eb => by rw [upd_ne (fun z => by rw [z, hD] at eb; cases eb)]; exact e _ _ eb, ?_⟩
        rw [upd_same]
        have et : bs.take (i + 1) = bs.take i ++ [b] := by rw [List.take_succ, hbi]; rfl
        rw [et]
        unfold oneOf
        simp
  · refine ⟨D, oneOf bs, rfl, .inl (.inl ?_), q H' e⟩
    rw [List.length_map, List.take_length] at hd
    exact hd
end Mi
set_option Elab.async false
set_option linter.all false
set_option maxRecDepth 100000
set_option maxHeartbeats 4000000
namespace Mi
open PySem L2
def C1 : List Str := ["BadWord", "BadStuff", "BadWish", "BadLoad"]
def C2 : List Str := ["BadNumber", "BadLots", "BadCharge"]
def C3 : List Str := ["BadPaper"]
def C4 : List Str := ["BadMoulds", "Taken", "NoName", "TooMuch"]
def C5 : List Str := ["Nothing", "Full", "BadText"]
def CL : List Str := C1 ++ C2 ++ C3 ++ C4 ++ C5
def K1 : List Str := C1 ++ C2 ++ C3
def K2 : List Str := C4 ++ C5
def flg (n : Str) (l : List Str) : List Bool := l.map fun c => decide (n = c)
def idxOf (n : Str) : Nat := CL.findIdx fun c => decide (n = c)
theorem cl_all : CL.all (fun n => decide ((oneOf (flg n CL)).sum = 1) && decide (CL[idxOf n]? = some n) && decide ((flg n CL)[idxOf n]? = some true) && (List.range (idxOf n)).all fun m => decide ((flg n CL)[m]? = some false)) = true := by decide +kernel
theorem cl_of {n : Str} (h : n ∈ CL) : (oneOf (flg n CL)).sum = 1 ∧ CL[idxOf n]? = some n ∧ (flg n CL)[idxOf n]? = some true ∧ ∀ m, m < idxOf n → (flg n CL)[m]? = some false := by
  have q := List.all_eq_true.mp cl_all n h
  simp only [Bool.and_eq_true, decide_eq_true_eq, List.all_eq_true, List.mem_range] at q
  exact ⟨q.1.1.1, q.1.1.2, q.1.2, q.2⟩
theorem seqL {σ : St} {H : Hp} {zs : List V} {t : TA} {u : TS} {D : Ends} {i : Nat} (hl : zs.length ≤ sizeLine) (ht : ∀ {Q : List V → Hp → Prop}, Q zs H → t σ H Q)
    (q : ∀ p H', (∀ b o, H b = some o → H' b = some o) → H' p = some (.lst zs) → u D (σ.set i (some (.ref p))) H') : tSeq (tAsg (tLst t) (gName i)) u D σ H :=
  ht ⟨hl, fun p hp => q p _ (fun b o e => by rw [upd_ne (ne_of_none e hp)]; exact e) upd_same⟩
theorem seqC {σ : St} {H : Hp} {i k : Nat} {l : Addr} {xs zs : List V} {t : TA} {u : TS} {D : Ends} (h1 : σ[i]? = some (some (.ref l))) (h2 : H l = some (.lst xs)) (hl : xs.length + zs.length ≤ sizeLine) (ht : ∀ {Q : List V → Hp → Prop}, Q zs H → t σ H Q)
    (q : ∀ p H', (∀ b o, H b = some o → H' b = some o) → H' p = some (.lst (xs ++ zs)) → u D (σ.set k (some (.ref p))) H') : tSeq (tAsg (tOp rCatL (tVar i) (tLst t)) (gName k)) u D σ H := catL_reads h1 h2 hl ht q
abbrev NT : List Str := ["_law_e", "_law_flags", "_law_kinds", "_law_flag"]
theorem term_reads {K : Fg} {a : Addr} {n : Str} {H : Hp} {Q : VK} (hn : n ∈ CL)
    (q : ∀ q o H', (∀ b u, H b = some u → H' b = some u) → H q = none → H' q = some (.frz o (.tup [.str "refused", .str n])) → o.dict = none → Q (.ref q) H') :
    tTerm K a true (flg n C1) (flg n C2) (flg n C3) (flg n C4) (flg n C5) K1 K2 { nx := fun _ H' => Q .non H', rt := Q } (L2.start NT [.ref a]) H := by
  obtain ⟨f1, f2, f3, f4⟩ := cl_of hn
  unfold tTerm
  have sz : ∀ k : Nat, k ≤ 100 → k ≤ sizeLine := fun k h => Nat.le_trans h (by decide)
  have fl : ∀ l, (flg n l).length = l.length := fun l => by unfold flg; simp
  refine seqL (zs := (flg n C1).map V.bl) (sz _ (by simp [fl, C1])) (fun q => isL_reads rfl q) fun p1 H1 e1 h1 => ?_
  refine seqC (xs := (flg n C1).map V.bl) (zs := (flg n C2).map V.bl) rfl h1 (sz _ (by simp [fl, C1, C2])) (fun q => isL_reads rfl q) fun p2 H2 e2 h2 => ?_
  refine seqC (xs := (flg n C1).map V.bl ++ (flg n C2).map V.bl) (zs := (flg n C3).map V.bl) rfl h2 (sz _ (by simp [fl, C1, C2, C3])) (fun q => isL_reads rfl q) fun p3 H3 e3 h3 => ?_
  refine seqC (zs := (flg n C4).map V.bl) rfl h3 (sz _ (by simp [fl, C1, C2, C3, C4])) (fun q => isL_reads rfl q) fun p4 H4 e4 h4 => ?_
  refine seqC (zs := (flg n C5).map V.bl) rfl h4 (sz _ (by simp [fl, C1, C2, C3, C4, C5])) (fun q => isL_reads rfl q) fun p5 H5 e5 h5 => ?_
  have h5' : H5 p5 = some (.lst ((flg n CL).map V.bl)) := by
    rw [h5]
    simp [flg, CL]
  clear h1 h2 h3 h4 h5
  refine seqL (zs := K1.map V.str) (sz _ (by decide)) (fun q => strs_reads q) fun p6 H6 e6 h6 => ?_
  refine seqC (xs := K1.map V.str) (zs := K2.map V.str) rfl h6 (sz _ (by decide)) (fun q => strs_reads q) fun p7 H7 e7 h7 => ?_
  have h7' : H7 p7 = some (.lst (CL.map V.str)) := by
    rw [h7]
    rfl
  clear h6 h7
  show tSumF K _ _ _
  refine sumF_reads (bs := flg n CL) rfl rfl (e7 _ _ (e6 _ _ h5')) (by rw [fl]; decide) fun H8 e8 => ?_
  refine ⟨rfl, _, rfl, ?_⟩
  rw [f1]
  show (if (!decide (V.int 1 = V.int 1)) = true then _ else _)
  rw [if_neg (by simp)]
  refine ⟨rfl, true, rfl, ?_⟩
  show (if (!true) = true then _ else _)
  rw [if_neg (by simp)]
  unfold tNext
  have h7b := e8 _ _ h7'
  have h5b := e8 _ _ (e7 _ _ (e6 _ _ h5'))
  refine ⟨_, rfl, _, rfl, .inl ⟨rfl, _, .inl (.inl h5b)⟩, p5, (flg n CL).map V.bl, .bl true, idxOf n, .bl true, rfl, rfl, .inl (.inl h5b), rfl, ?_, ?_, rfl, ?_, ?_⟩
  · rw [List.all_eq_true]
    intro v hv
    obtain ⟨b, _, rfl⟩ := List.mem_map.mp hv
    rfl
  · rw [List.getElem?_map, f3]; rfl
  · intro m z' hm hz
    rw [List.getElem?_map, f4 m hm] at hz
    cases hz
    rfl
  refine ⟨p7, CL.map V.str, _, .str n, rfl, rfl, .inl (.inl h7b), atI_nat (by rw [List.getElem?_map, f2]; rfl), ?_⟩
  refine ⟨by show (2 : Nat) ≤ sizeLine; decide, fun p o hp ho => ?_⟩
  have ee : ∀ b u, H b = some u → H8 b = some u := fun b u e => e8 _ _ (e7 _ _ (e6 _ _ (e5 _ _ (e4 _ _ (e3 _ _ (e2 _ _ (e1 _ _ e)))))))
  refine q p o _ (fun b u e => ?_) ?_ upd_same ho
  · rw [upd_ne (ne_of_none (ee _ _ e) hp)]; exact ee _ _ e
  · cases z : H p with
    | none => rfl
    | some u => rw [ee _ _ z] at hp; cases hp
end Mi
set_option Elab.async false
set_option linter.all false
set_option maxRecDepth 100000
set_option maxHeartbeats 4000000
namespace Mi
open PySem L2
/-! ### what the head tells of refusals -/
def decO (a b : Option (Option Value)) : Bool := decide (a = b)
def excB (K : Fg) (x : Str) : Bool :=
  decO (PySem.W.findIn K (.ref (He.ga K x)) "__getattribute__") (some (some (.builtin "BaseException.__getattribute__"))) && (decO (PySem.W.findIn K (.ref (He.ga K x)) "__getattr__") (some none) && (decide (PySem.W.subIn K (.ref (He.ga K x)) (.type "BaseException") = some true) && (PySem.W.hasDictIn K (He.ga K x) &&
  (decO (PySem.W.findIn K (.ref (He.ga K x)) "__class__") (some (some (.builtin "object.__class__"))) && (decO (PySem.W.specialIn K (.builtin "object.__class__") "__get__") (some (some (.builtin "getset_descriptor.__get__"))) && (decide (PySem.W.takesIn K (.builtin "object.__class__") = some true) && (decide (PySem.W.mroIn K (He.ga K x) (.type "object") = some true) &&
  ((CL.all fun y => decide (PySem.W.kitOne K (.ref (He.ga K x)) (.ref (He.ga K y)) = some (decide (x = y)))) && (decide (PySem.W.kitOne K (.ref (He.ga K x)) (.type "ValueError") = some true) && (decide (PySem.W.exmOne K (.ref (He.ga K x)) (.ref (He.ga K "TooMuch")) = some false) && (decide (PySem.W.exmOne K (.ref (He.ga K x)) (.ref (He.ga K "CastError")) = some true) && (decide (x ∈ CL) && (He.Fa.exc x).ok K))))))))))))
structure ExF (K : Fg) (x : Str) : Prop where
  c : ExcC K (He.ga K x)
  k : ∀ y ∈ CL, PySem.W.kitOne K (.ref (He.ga K x)) (.ref (He.ga K y)) = some (decide (x = y))
  v : PySem.W.kitOne K (.ref (He.ga K x)) (.type "ValueError") = some true
  t : PySem.W.exmOne K (.ref (He.ga K x)) (.ref (He.ga K "TooMuch")) = some false
  e : PySem.W.exmOne K (.ref (He.ga K x)) (.ref (He.ga K "CastError")) = some true
  m : x ∈ CL
  o : (He.Fa.exc x).ok K = true
theorem excB_ok {K : Fg} {x : Str} (h : excB K x = true) : ExF K x := by
  unfold excB at h
  simp only [Bool.and_eq_true, decO, decide_eq_true_eq, List.all_eq_true] at h
  obtain ⟨h1, h2, h3, h4, h5, h6, h7, h8, h9, h10, h11, h12, h13, h14⟩ := h
  exact ⟨⟨h1, h2, h3, h4, h5, h6, h7, h8⟩, h9, h10, h11, h12, h13, h14⟩
def gloB (K : Fg) (x : Str) : Bool := (He.Fa.glo x).ok K
/-- all that the told-laws lean on -/
def toldB (ns : List Str) (K : Fg) : Bool := ns.all (excB K) && (CL.all (gloB K) && gloB K "CastError")
structure ToldF (K : Fg) (mg : Str → Option Value) (ns : List Str) : Prop where
  x : ∀ x ∈ ns, ExF K x
  g : ∀ x ∈ CL, mg x = some (.ref (He.ga K x))
  ce : mg "CastError" = some (.ref (He.ga K "CastError"))
theorem toldF_of {K : Fg} {h : Heap} {mg : Str → Option Value} {ns : List Str} (X : K.In h) (G : h.Ns mainGlobals mg) (b : toldB ns K = true) : ToldF K mg ns := by
  unfold toldB at b
  simp only [Bool.and_eq_true, List.all_eq_true] at b
  exact ⟨fun x hx => excB_ok (b.1 x hx), fun x hx => He.glo_ok X G (b.2.1 x hx), He.glo_ok X G b.2.2⟩
/-! ### the defs that make lambdas -/
def MkrF (K : Fg) (mg : Str → Option Value) (base : Heap) (T : Tb) (fd : FuncData) (q : Str) : Prop := ∃ c P, fd.code = .ref c ∧ LamX.TabB base mg c P ∧ (P, q) ∈ T.tabs ∧ ∀ p ∈ T.tabs, p.1 = P → p.2 = q
section
variable {X : Cx}
theorem pe_isV {p : Addr × Obj} {D : Addr} {b : Bool} {p1 p2 p3 pos : Pos} (E : ExcC X.K D) (hp : p ∈ X.pn) (hz : L2N.Zn (.ref D) none p.2) (hf : ∃ vs, p.2.data = .fields vs) (hk : PySem.W.kitOne X.K (.ref D) (.type "ValueError") = some b) (hg : Gl X "isinstance") (hm : X.mg "isinstance" = none) (hgC : Gl X "ValueError") (hmC : X.mg "ValueError" = none) (hN : X.N[0]? = some ("_law_e" : Str)) (hv : Vis X.env.scope "_law_e")
    (he : starEach [.Name "_law_e" p1, .Name "ValueError" p2] X.env = (false, eval (.Name "_law_e" p1) X.env) :: starEach [.Name "ValueError" p2] X.env := by rfl) (he2 : starEach [.Name "ValueError" p2] X.env = (false, eval (.Name "ValueError" p2) X.env) :: starEach [] X.env := by rfl) (hpl : (backTo pos (starEach [.Name "ValueError" p2] X.env)).any (·.1) = false := by rfl) :
    PE X (.Call (.Name "isinstance" p3) [.Name "_law_e" p1, .Name "ValueError" p2] [] pos) (tIsI p.1 b) := by
  refine pe_mono (pe_callB (call_isP E hp hz hf) hg hm bt_isinstance (pa_cons (pe_var (i := 0) hN hv) (pa_cons (pe_bltn (v := V.ty "ValueError") (u := .type "ValueError") hgC hmC (by decide +kernel) rfl) pa_nil he2) he) (by decide) (by decide) he hpl) fun σ H Q ⟨h1, h2⟩ => ?_
  exact ⟨_, h1, .ty "ValueError", .type "ValueError", b, rfl, fun u r => r, hk, h2⟩
variable {T : Tb} {c : Gh} {W : WX}
/-- _law_told(lambda: body) -/
theorem me_told {ns : List Str} {st stt : Stmt} {g f : Addr} {fdg fdt : FuncData} {k : Nat} {params : Arguments} {body : Expr} {scope : Scope} {fm : MM D} {p lpos pos : Pos} {su1 : List Stmt} {b1 : Stmt} {p1 p2 p3 p4 p5 p6 p7 p8 p9 p10 p11 p12 : Pos}
    (U : ToldF X.K X.mg ns) (Fg : Fun X.K "_law_told" "_law_told" st g fdg) (hmg : X.mg "_law_told" = some (.ref g)) (hbg : Binds X.K fdg ["_law_deed"] []) (Sg : FnScope ["_law_deed", "_law_e"] ["_law_deed"] (defScope st))
    (hbody0 : defBody st = [.Try [.Return (some (.Call (.Name "_law_deed" p1) [] [] p2)) p3] [.ExceptHandler (some (.Name "TooMuch" p4)) (some "_law_e") (b1 :: su1) p5, .ExceptHandler (some (.Name "CastError" p6)) (some "_law_e") [.Return (some (.Call (.Name "_law_term" p7) [.Name "_law_e" p8] [] p9)) p10] p11] [] [] p12])
    (hl1 : (defScope st).names.lookup ("TooMuch" : Str) = some .globalImplicit) (hl2 : (defScope st).names.lookup ("CastError" : Str) = some .globalImplicit) (hl3 : (defScope st).names.lookup ("_law_term" : Str) = some .globalImplicit) (hl4 : (defScope st).names.lookup ("_law_e" : Str) = some .local)
    (hl5 : Vis (defScope st) "_law_deed")
    (Ft : Fun X.K "_law_term" "_law_term" stt f fdt) (hmt : X.mg "_law_term" = some (.ref f)) (hbt : Binds X.K fdt ["_law_e"] []) (Fk : TermOk X.prog X.w X.K X.mg X.base 1 f fdt (KdOf X.K ns))
    (M : MkrF X.K X.mg X.base T fdM (X.env.qual ++ "<lambda>")) (hcd : X.env.code = fdM.code) (hr : Room (k + 2) X.A) (hgl : Gl X "_law_told") (L : LamX.lamSB X.env.scope scope = true) (hdef : defaultsOf params X.env = ([], []))
    (hbind : ∀ (q : Str) (cl : List (Str × Addr)) (pm cv ctv : Value), bindArgs (PySem.W.kla_fn "<lambda>" q params body scope cl pm cv ctv) ⟨[], []⟩ = pure [])
    (hbody : ∀ (A : Around) (outer : List Env) (s : Shared) (H : Hp) (E : XK) (f c' : Addr), Room k (A.deeper (LamX.lamEnv X scope s.heap.objs.size f c')) → PE (lamN X A outer s H E scope f c') body (mE X.K T c (fun cls d _ H => E cls d H) fm)) :
    PE X (.Call (.Name "_law_told" p) [.Lambda params body scope lpos] [] pos) (mE X.K T c W (toldE ns fm)) := by
  obtain ⟨oc, od, kV, doc, pm, an, cdv, ct, osl, rfl, lk, hcd'⟩ := Fg.ex
  obtain ⟨cM, PM, e1, TB, mT, hu⟩ := M
  rw [hbody0] at lk hbg
  refine pe_mono (pe_lamcallN (T := T.tabs) (k := k) (Ng := ["_law_deed", "_law_e"]) (a := "_law_deed") (t := fun E => mE X.K T c (fun cls d _ H => E cls d H) fm) hgl hmg Fg.kp lk hcd' hbg Sg rfl hl5 (told_givesN (Kd := KdOf X.K ns) Fk (by omega) hl1 hl2 hl3 hl4 (U.g "TooMuch" (by decide +kernel)) U.ce hmt Ft.kp hbt) TB (by rw [hcd, e1]) mT hu hr (LamX.lamS_by L) hdef hbind hbody) (told_to fun x hx => ⟨(U.x x hx).t, (U.x x hx).e⟩)
end
end Mi
set_option Elab.async false
set_option linter.all false
set_option maxRecDepth 100000
set_option maxHeartbeats 4000000
namespace Mi
open PySem L2
def fuelAt (i : Nat) (ρ : MSt) : Nat := match ρ[i]? with
  | some (some (.d (.int z))) => z.natAbs + 2
  | _ => 0
def qlam (x : Str) : Str := (x ++ ".<locals>.") ++ "<lambda>"
/-! ### the head of a told-law -/
theorem code_of {K : Fg} {x : Str} {st : Stmt} {fd : FuncData} (F : Fun K x x st (He.fAd K (x, none)) fd) : fd.code = .ref (He.cT K (x, none)).1 := by
  obtain ⟨oc, od, kV, doc, pm, an, cdv, ct, osl, rfl, lk, hcd⟩ := F.ex
  obtain ⟨c, e⟩ := He.codeIn_ref hcd
  subst e
  exact congrArg Value.ref (He.codeOf_eq lk rfl).symm
def td0 : Addr → List (V × V) → List (D × D) → HO → Prop := fun _ _ _ _ => False
def Ts (td : Addr → List (V × V) → List (D × D) → HO → Prop) (tf : List He.Defn) (K : Fg) : Tb := ⟨tf.map fun p => ((He.cT K p).2, qlam p.1), td⟩
def apartB (tf : List He.Defn) (K : Fg) : Bool := tf.all fun p => tf.all fun p' => decide ((He.cT K p).2 = (He.cT K p').2 → p = p')
theorem mkr_of {K : Fg} {mg : Str → Option Value} {base : Heap} {tf : List He.Defn} {x : Str} {st : Stmt} {fd : FuncData} (F : Fun K x x st (He.fAd K (x, none)) fd) (hm : (x, none) ∈ tf) (ap : apartB tf K = true) (TB : ∀ p ∈ tf, LamX.TabB base mg (He.cT K p).1 (He.cT K p).2) : MkrF K mg base (Ts td tf K) fd (qlam x) := by
  refine ⟨_, _, code_of F, TB _ hm, List.mem_map.mpr ⟨_, hm, rfl⟩, fun p hp e => ?_⟩
  obtain ⟨p', hp', rfl⟩ := List.mem_map.mp hp
  have q := List.all_eq_true.mp (List.all_eq_true.mp ap _ hp') _ hm
  rw [decide_eq_true_eq] at q
  rw [q e]
theorem tabs_of {K : Fg} {tf : List He.Defn} {H : Hp} (h : ∀ p ∈ tf.map (He.cT K), H p.2 = some (.tbl #[])) : LamX.Tabs (Ts td tf K) H := fun p hp => by
  obtain ⟨p', hp', rfl⟩ := List.mem_map.mp hp
  exact LamX.TabS.nil (h _ (List.mem_map.mpr ⟨p', hp', rfl⟩))
section
variable {K : Fg} {T : Tb} {c : Gh} {W : WX} {σ : St} {ρ : MSt} {G G1 : Wd} {H : Hp} {Q : VK}
theorem pO.le {o : Out S} (l : Le G G1) (h : pO K T c W σ G Q o) : pO K T c W σ G1 Q o := by
  cases o with
  | ok a ρ' => exact fun b G' H' l' => h b G' H' (l.trans l')
  | exn e ρ' => exact fun cls dx G' H' l' => h cls dx G' H' (l.trans l')
  | stuck => exact h
theorem pO_bind {α β : Type} {rel : Wd → β → α → Prop} {R : β → Hp → Prop} {f : MM α} {g : α → MM S} (j : J K T c G H σ ρ) (p : pO K T c W σ G Q (MM.bind f g ρ))
    (k : ∀ a b ρ1 G1 H1, Le G G1 → J K T c G1 H1 σ ρ1 → rel G1 b a → pO K T c W σ G1 Q (g a ρ1) → R b H1) : mX K T c W rel f σ H R := by
  refine ⟨G, ρ, j, ?_⟩
  unfold MM.bind at p
  cases e : f ρ with
  | ok a ρ1 =>
    rw [e] at p
    exact fun b G1 H1 l j1 r => k a b ρ1 G1 H1 l j1 r (pO.le l p)
  | exn x ρ1 =>
    rw [e] at p
    exact p
  | stuck =>
    rw [e] at p
    exact p
/-- a new list, owned -/
theorem pO.new {xs : List V} {ds : List D} {q : Addr} (p : pO K T c W σ G Q (.ok (.ol ds) ρ)) (j : J K T c G H σ ρ) (hq : H q = none) (r : DqAll K G xs ds) : Q (.ref q) (upd H q (.lst xs)) :=
  p q G _ (Le.refl G) (j.aside hq) rfl ⟨q, xs, rfl, j.fresh hq, upd_same, r⟩ (j.H0none hq) ⟨j.notOwn hq, j.freshM hq⟩
end
section
variable {X : Cx} {T : Tb} {c : Gh} {W : WX} {a b e : Expr} {f f1 f2 : MM D} {pos p : Pos}
def mkOL (xs : List D) : Res S := if small xs.length = true then .ok (.ol xs) else .stuck
theorem mo_lst {es : List Expr} {g : MM (List D)} (h : PA X es (mA X.K T c W g)) : PE X (.List es pos) (mO X.K T c W (MM.bind g fun xs => lift (mkOL xs))) := by
  refine pe_mono (pe_lst h) fun σ H Q ⟨G, ρ, j, p⟩ => ?_
  refine pO_bind j p fun x v ρ1 G1 H1 l1 j1 r1 p1 => ?_
  unfold mkOL at p1
  split at p1
  · rename_i hs
    exact ⟨by rw [r1.length]; exact of_decide_eq_true hs, fun q hq => pO.new p1 j1 hq r1⟩
  · exact p1.elim
end
end Mi
set_option Elab.async false
set_option linter.all false
set_option maxRecDepth 100000
set_option maxHeartbeats 4000000
/-! ### len(set(texts)) -/
namespace Mi
open PySem L2
def cntP (p : List Str × Nat) (a : Str) : List Str × Nat := (p.1 ++ [a], if a ∈ p.1 then p.2 else p.2 + 1)
/-- how many unlike ones -/
def cntU (l : List Str) : Nat := (l.foldl cntP ([], 0)).2
theorem cntU_fst : ∀ (l : List Str) (p : List Str × Nat), (l.foldl cntP p).1 = p.1 ++ l
  | [], p => by simp
  | a :: l, p => by rw [List.foldl_cons, cntU_fst l]; simp [cntP]
theorem cntU_snoc (l : List Str) (a : Str) : cntU (l ++ [a]) = if a ∈ l then cntU l else cntU l + 1 := by
  unfold cntU
  rw [List.foldl_append, List.foldl_cons, List.foldl_nil]
  show (if a ∈ (l.foldl cntP ([], 0)).1 then _ else _) = _
  rw [cntU_fst l ([], 0), List.nil_append]
theorem cntU_le (n : Nat) : ∀ l : List Str, l.length = n → cntU l ≤ n := by
  induction n with
  | zero => intro l h; rw [List.length_eq_zero_iff.mp h]; exact Nat.le_refl _
  | succ n ih =>
    intro l h
    have e : l = l.dropLast ++ [l.getLast (by intro z; rw [z] at h; cases h)] := (List.dropLast_concat_getLast _).symm
    have hl : l.dropLast.length = n := by simp [h]
    rw [e, cntU_snoc]
    have := ih l.dropLast hl
    split <;> omega
theorem cntU_nodup (n : Nat) : ∀ l : List Str, l.length = n → (cntU l = n ↔ l.Nodup) := by
  induction n with
  | zero => intro l h; rw [List.length_eq_zero_iff.mp h]; exact ⟨fun _ => List.nodup_nil, fun _ => rfl⟩
  | succ n ih =>
    intro l h
    have e : l = l.dropLast ++ [l.getLast (by intro z; rw [z] at h; cases h)] := (List.dropLast_concat_getLast _).symm
    have hl : l.dropLast.length = n := by simp [h]
    have h1 := ih l.dropLast hl
    have h2 := cntU_le n l.dropLast hl
    generalize l.getLast _ = z at e
    generalize l.dropLast = m at *
    subst e
    rw [cntU_snoc, List.nodup_append]
    by_cases hz : z ∈ m
    · rw [if_pos hz]
      refine ⟨fun q => by omega, fun q => ?_⟩
      exact absurd rfl (q.2.2 z hz z (by simp))
    · rw [if_neg hz]
      refine ⟨fun q => ⟨h1.mp (by omega), by simp, fun a ha b hb => ?_⟩, fun q => by rw [h1.mpr q.1]⟩
      simp at hb
      rw [hb]
      exact fun y => hz (y ▸ ha)
section
variable {prog : Program} {w : World} {A : Around} {R : Result → Shared → Prop} {I : Addr} {fp wr : List Addr} {G : Array GenState → Array GenState → Prop} {n : Nat} {P : Nat → Value → Prop} {St : Nat → Shared → Prop}
theorem set_texts (W : WalksS prog w A.in1 I fp wr G n P St) (T : Addr) (hT : T ∉ fp) (xs : List Str) (hz : xs.length = n) (hb : n + 1 < scanBound) (hv : ∀ i v, P i v → ∃ u t, xs[i]? = some u ∧ v = .str u t) :
    ∀ (m i : Nat) (s : Shared), n - i = m → i ≤ n → St i s → s.heap.SetOf (PySem.strKind prog w) T (fun z => decide (z ∈ xs.take i)) (cntU (xs.take i)) →
      (∀ s', Moved (T :: wr) G s s' → s'.heap.SetOf (PySem.strKind prog w) T (fun z => decide (z ∈ xs)) (cntU xs) → R (.ok (.ret .none)) s') →
      codeAny (model prog w) A (.builtin "set.update.loop" ⟨[.ref T, .ref I], []⟩) R s := by
  have nT : T ∉ wr := fun z => hT (W.sub _ z)
  have up : ∀ b ∈ wr, b ∈ T :: wr := fun _ z => List.mem_cons_of_mem _ z
  intro m
  induction m with
  | zero =>
    intro i s e1 e2 st R0 fin
    obtain rfl : i = n := by omega
    refine codeAny_builtin PyProof.Rows.F.entry_set_update_loop ?_
    rw [Around.under_plainId (PyProof.Rows.F.plain_set_update_loop) _]
    show wpAny _ (A.in1) (pyNext (.ref I) >>= _) _ _ s
    refine wpAny_bind (W.done s _ _ st fun s1 mv => ?_)
    show wpAny _ (A.in1) (ret Value.none) _ _ s1
    refine wpAny_pure (fin s1 (mv.mono up) ?_)
    rw [← hz, List.take_length] at R0
    obtain ⟨o, es, ep, tb, ho, more⟩ := R0
    exact ⟨o, es, ep, tb, mv.heap T _ nT ho, more⟩
  | succ m ih =>
    intro i s e1 e2 st R0 fin
    have lt : i < n := by omega
    refine codeAny_builtin PyProof.Rows.F.entry_set_update_loop ?_
    rw [Around.under_plainId (PyProof.Rows.F.plain_set_update_loop) _]
    show wpAny _ (A.in1) (pyNext (.ref I) >>= _) _ _ s
    refine wpAny_bind (W.item i s _ _ lt st fun v s1 hp st1 mv => ?_)
    obtain ⟨u, t, hu, rfl⟩ := hv i v hp
    have R1 : s1.heap.SetOf (PySem.strKind prog w) T (fun z => decide (z ∈ xs.take i)) (cntU (xs.take i)) := by
      obtain ⟨o, es, ep, tb, ho, more⟩ := R0
      exact ⟨o, es, ep, tb, mv.heap T _ nT ho, more⟩
    show wpAny _ (A.in1) (holding [Value.str u t] (setAdd T (.str u t)) >>= _) _ _ s1
    refine wpAny_bind (wpAny_holding ?_)
    unfold setAdd
    refine wpAny_holding (wpAny_bind ((PySem.strKind prog w).pyHash (k := u) (strKind_is _ _ _ _) ?_))
    have le := cntU_le i (xs.take i) (by rw [List.length_take]; omega)
    refine wpAny_setAddHashed_of (knd := PySem.strKind prog w) (s := { s1 with toks := s1.toks + 1 }) (strKind_is _ _ _ _) rfl R1 (by omega) fun h2 sb R2 => ?_
    have et : xs.take (i + 1) = xs.take i ++ [u] := by rw [List.take_succ, hu]; rfl
    have R3 : h2.SetOf (PySem.strKind prog w) T (fun z => decide (z ∈ xs.take (i + 1))) (cntU (xs.take (i + 1))) := by
      refine PyProof.Rows.SetOf_congr R2 (fun z => ?_) ?_
      · rw [et]
        by_cases e : z = u
        · simp [e]
        · simp [e]
      · rw [et, cntU_snoc]
        by_cases e : u ∈ xs.take i
        · simp [e]
        · simp [e]
    refine wpAny_pure ⟨plainId_quiet (PyProof.Rows.F.plain_set_update_loop) _, ih (i + 1) _ (by omega) lt (W.frame _ s1 _ _ st1 (Nat.le_succ _) fun b mb o eb => ?_) R3 fun s2 mv2 R4 => ?_⟩
    · rw [sb.2 b (fun y : b = T => hT (by rw [← y]; exact mb))]; exact eb
    · refine fin s2 (Moved.trans W.gtrans ((mv.mono up).then_heap (Nat.le_succ _) fun b o nb eb => ?_) mv2) R4
      rw [sb.2 b (fun y : b = T => nb (by rw [y]; exact List.mem_cons_self))]; exact eb
end
abbrev newSet (led : Bool) : Obj := { cls := .type "set", dict := none, data := .set #[] 0 (.fresh 0 0 led) }
section
variable {prog : Program} {w : World} {A : Around} {E : Value → Shared → Prop} {s : Shared}
set_option maxHeartbeats 3200000 in
theorem call_set_texts {l : Addr} {its : Array Value} {xs : List Str} {Q : Value → Shared → Prop} (hh : A.handled = none) (hl : s.heap.IsList l its) (hi : PyProof.Rows.StrsAre its.toList xs) (hb : xs.length + 1 < scanBound)
    (k : ∀ (h2 : Heap) (tk : Nat), h2.SetOf (PySem.strKind prog w) s.heap.objs.size (fun z => decide (z ∈ xs)) (cntU xs) → (∀ b o, b < s.heap.objs.size → s.heap.get? b = some o → h2.get? b = some o) → Q (.ref s.heap.objs.size) { s with heap := h2, toks := tk }) :
    wpAny (model prog w) A (call (.type "set") [.ref l]) Q E s := by
  obtain ⟨cM, tM, mM⟩ := PySem.F.called_set.mro
  have mk1 := PySem.F.called_set.made
  have mk2 := PySem.F.called_set.sub
  refine wpAny_call (codeAny_of_tree ?_)
  show wpAny _ _ (callAny (Value.type "set") _) _ _ _
  refine wpAny_pure ⟨Code.quiet_builtin _ (by decide +kernel), codeAny_builtin (PySem.F.entry_type_call) ?_⟩
  rw [Around.under_plain (weight_type_call_type "set" [Value.ref l] []) rfl]
  have nt := PySem.F.called_set.notType
  have cc := PySem.F.called_set.canCreate
  have tc := PySem.F.typeCall_set_1 (Value.ref l)
  repeat any_goals first | assumption | wp_step
  refine codeAny_mono (code_set_new_1 (Value.ref l) (E := E) (Q₁ := fun ob s1 => ∃ led : Bool, ob = .ref s.heap.objs.size ∧ s1 = { s with heap := s.heap.push (newSet led) }) fun led => ⟨led, rfl, rfl⟩) fun r s1 hr => ?_
  cases r with
  | error e => exact hr
  | ok fl =>
    cases fl with
    | ret ob =>
      obtain ⟨led, rfl, rfl⟩ := hr
      have g1 : (s.heap.push (newSet led)).get? s.heap.objs.size = some (newSet led) := Heap.get?_push_size _ rfl
      have ty : Shared.TypeIs { s with heap := s.heap.push (newSet led) } (.ref s.heap.objs.size) "set" := ⟨_, g1, rfl⟩
      have li := PySem.F.called_set.init.lookup
      have bi := PySem.F.called_set.init.bind (Value.ref s.heap.objs.size)
      repeat any_goals first | assumption | wp_step
      refine codeAny_mono (codeAny_call_builtin (R := wants (fun r s2 => r = .none ∧ ∃ h2 tk, s2 = { s with heap := h2, toks := tk } ∧ h2.SetOf (PySem.strKind prog w) s.heap.objs.size (fun z => decide (z ∈ xs)) (cntU xs) ∧ (∀ b o, b < s.heap.objs.size → s.heap.get? b = some o → h2.get? b = some o)) E) PySem.F.called_set.init.plain PySem.F.entry_set_init (check_set_init_1 ty ?_)) fun r2 s2 hr2 => ?_
      · obtain ⟨ob, hob, hc1, nl, hd1⟩ := hl
        obtain ⟨oc, od, oda, osl⟩ := ob
        simp only at hc1 hd1
        subst hc1 hd1
        have g2 : (s.heap.push (newSet led)).get? l = some { cls := .type "list", dict := od, data := .seq its nl, slots := osl } := Heap.get?_push_of_some _ hob
        have q1 := PySem.F.sub_list_set
        have q2 := PySem.F.sub_list_frozenset
        have q3 : (Value.type "list" == Value.type "dict") = false := by decide
        have l1 : (s.heap.push (newSet led)).IsList l its := ⟨_, g2, rfl, nl, rfl⟩
        unfold Builtin.«set.__init__» noKeywords Builtin.Frozenset.updateFrom
        generalize hPI : pyIter = PI
        wp_walk
        subst hPI
        refine wpAny_pyIter_list l1 (wpAny_bind (wpAny_runValue ?_))
        have lS : l < s.heap.objs.size := Heap.lt_size hob
        have h3 : A.in1.in1.in1.handled = none := by simp [hh]
        have nI : l ≠ (s.heap.push (newSet led)).objs.size := by
          rw [Heap.size_push]; exact Nat.ne_of_lt (Nat.lt_succ_of_lt lS)
        have nS : s.heap.objs.size ∉ [(s.heap.push (newSet led)).objs.size, l] := by
          rw [Heap.size_push]
          simp only [List.mem_cons, List.not_mem_nil, or_false, not_or]
          exact ⟨Nat.ne_of_lt (Nat.lt_succ_self _), Nat.ne_of_gt lS⟩
        have sz : xs.length = its.size := by rw [← PyProof.Rows.StrsAre.len_eq hi, Array.length_toList]
        have vl : ∀ (i : Nat) (v : Value), its[i]? = some v → ∃ u t, xs[i]? = some u ∧ v = .str u t := fun i v e => by
          obtain ⟨t, e2⟩ := SS.strs_at hi i v (by rw [Array.getElem?_toList]; exact e)
          have lt : i < xs.length := by rw [sz]; exact (Array.getElem?_eq_some_iff.mp e).1
          exact ⟨xs[i], t, List.getElem?_eq_getElem lt, by rw [e2, List.getD_eq_getElem?_getD, List.getElem?_eq_getElem lt]; rfl⟩
        refine set_texts ((Walks.list h3 _ l nI its).toS) s.heap.objs.size nS xs sz (by rw [← sz]; exact hb) vl (its.size - 0) 0 _ (by omega) (Nat.zero_le _) ⟨⟨_, Heap.get?_push_size _ rfl, rfl, rfl⟩, (l1.push _)⟩ ?hzero ?hend
        case hzero =>
          have g3 : ((s.heap.push (newSet led)).push { cls := .type "list_iterator", data := .fields #[.ref l, .int 0 0] }).get? s.heap.objs.size = some (newSet led) := Heap.get?_push_of_some _ g1
          exact PyProof.Rows.SetOf_congr ((PyProof.Rows.setObjOf_fresh (knd := PySem.strKind prog w) led).setOf g3 (by unfold scanBound; omega)) (fun _ => by simp) rfl
        case hend =>
          intro s3 mv R3
          obtain ⟨hp, gn, dr, tk, os⟩ := s3
          obtain rfl : gn = s.gens := mv.gens
          obtain rfl : dr = s.drawn := mv.drawn
          obtain rfl : os = s.os := mv.os
          show wpAny _ _ _ _ _ _
          refine wpAny_pure ?_
          show wpAny _ _ (ret Value.none) _ _ _
          refine wpAny_pure ⟨rfl, hp, tk, rfl, R3, fun b o lb e => ?_⟩
          have n1 : b ≠ s.heap.objs.size := Nat.ne_of_lt lb
          have n2 : b ≠ (s.heap.push (newSet led)).objs.size := by
            rw [Heap.size_push]; exact Nat.ne_of_lt (Nat.lt_succ_of_lt lb)
          exact mv.heap b o (by simp only [List.mem_cons, List.not_mem_nil, or_false, not_or]; exact ⟨n1, n2⟩) (Heap.get?_push_of_some _ (Heap.get?_push_of_some _ e))
      · cases r2 with
        | error e => exact hr2
        | ok f2 =>
          cases f2 with
          | ret r =>
            obtain ⟨rfl, h2, tk, rfl, R2, k2⟩ := hr2
            repeat any_goals first | assumption | wp_step
            exact k _ _ R2 k2
          | _ => exact hr2.elim
    | _ => exact hr.elim
end
section
variable {X : Cx} {T : Tb} {c : Gh} {W : WX} {a e : Expr} {f : MM D}
def toStrs : List D → Option (List Str)
  | [] => some []
  | .str u :: ds => (toStrs ds).map (u :: ·)
  | _ => none
theorem vs_strs {K : Fg} {G : Wd} : ∀ {vs : List V} {ds : List D} {us : List Str}, DqAll K G vs ds → toStrs ds = some us → vs = us.map V.str
  | _, _, _, .nil, h => by cases h; rfl
  | _, _, us, .cons (d := d) q t, h => by
    cases d with
    | str u =>
      cases q
      unfold toStrs at h
      cases h2 : toStrs _ with
      | none => rw [h2] at h; cases h
      | some zs =>
        rw [h2] at h
        cases h
        rw [vs_strs t h2]
        rfl
    | _ => cases h
/-- len(set(xs)), xs a list of texts -/
def lenSet : D → Res D
  | .list xs => match toStrs xs with
    | some us => if us.length < 1000 then .ok (.int (cntU us)) else .stuck
    | none => .stuck
  | _ => .stuck
def lenSetE (f : MM D) : MM D := MM.bind f fun x => lift (lenSet x)
def tLenU (K : Fg) (ta : TE) : TE := fun σ H Q => ta σ H fun x H1 => ∃ l us, x = .ref l ∧ SqL K H1 l (us.map V.str) ∧ us.length < 1000 ∧ Q (.int (cntU us)) H1
theorem pe_lenU {ta : TE} {p p2 q pos : Pos} (hc : X.calm = true) (hg : Gl X "len") (hm : X.mg "len" = none) (hg2 : Gl X "set") (hm2 : X.mg "set" = none) (ha : PE X a ta) (na : starEach [a] X.env = (false, eval a X.env) :: starEach [] X.env := by rfl) :
    PE X (.Call (.Name "len" p) [.Call (.Name "set" p2) [a] [] q] [] pos) (tLenU X.K ta) := by
  refine ⟨fun pins s σ H Q I h => ?_⟩
  refine PyProof.Rows.Call_ (ld_blt I hg hm boot_len (PyProof.Rows.callWith_builtin1 (PyProof.Rows.args_cons (PyProof.Rows.Call_ (ld_blt (u := .type "set") I hg2 hm2 (by decide +kernel) ?_)) rfl) rfl rfl))
  refine PyProof.Rows.callWith_type1 (PyProof.Rows.args_cons (thn (ha.run pins s σ H _ I h) fun v s1 ⟨x, H1, I1, r1, q1⟩ => PyProof.Rows.args_nil ?_) na) na rfl
  obtain ⟨l, us, rfl, hq, h1, q1⟩ := q1
  cases r1
  obtain ⟨its, r, pl, hz⟩ := I1.list hq
  refine call_set_texts (I1.ok.hd hc) pl.isList (by simpa using strsAre_of r) (by unfold scanBound; omega) fun h2 tk R k => ?_
  refine PyProof.Rows.args_nil ?_
  obtain ⟨o, es, ep, t, ho, hex, hd, _, _, _, hf, hn⟩ := R
  have I2 : Inv X pins σ H1 { s1 with heap := h2, toks := tk } := I1.kept fun b o e => k b o (Heap.lt_size e) e
  have le := cntU_le us.length us rfl
  refine call_len_set ho hex hd hf (by rw [hn]; omega) ⟨.int (cntU us), H1, I2.tok _, ⟨_, by rw [hn]⟩, q1⟩
theorem me_lenset {p p2 q pos : Pos} (hc : X.calm = true) (hg : Gl X "len") (hm : X.mg "len" = none) (hg2 : Gl X "set") (hm2 : X.mg "set" = none) (ha : PE X a (mE X.K T c W f)) (na : starEach [a] X.env = (false, eval a X.env) :: starEach [] X.env := by rfl) :
    PE X (.Call (.Name "len" p) [.Call (.Name "set" p2) [a] [] q] [] pos) (mE X.K T c W (lenSetE f)) := by
  refine pe_mono (pe_lenU hc hg hm hg2 hm2 ha na) fun σ H Q ⟨G, ρ, j, p⟩ => ?_
  refine pX_bind j p fun x v ρ1 G1 H1 l1 j1 r1 p1 => ?_
  cases x with
  | list xs =>
    unfold lenSet at p1
    dsimp only at p1
    cases h : toStrs xs with
    | none => rw [h] at p1; exact p1.elim
    | some us =>
      rw [h] at p1
      by_cases hl : us.length < 1000
      · simp only [hl, if_true] at p1
        cases r1 with
        | lst hr hd =>
          have ev := vs_strs hd h
          subst ev
          exact ⟨_, us, rfl, .inl (j1.subH.rd _ _ (fun _ _ z => by cases z) hr), hl, p1.here j1 (.int _)⟩
      · simp only [hl, if_false] at p1
        exact p1.elim
  | _ => exact p1.elim
end
end Mi
/-! ### dicts compared that are alike -/
namespace Mi
open PySem L2
section
variable {X : Cx} {T : Tb} {c : Gh} {W : WX}
theorem mss_never {sts : List Stmt} : PSs X sts (mS X.K T c W stuck) := ⟨fun _ _ _ _ _ _ ⟨_, _, _, p⟩ => p.elim⟩
def rLike (r : Bool) : R2 := fun x y H Q => ∃ a b ks ls, x = .ref a ∧ y = .ref b ∧ Rd H a (.dK ks) ∧ Rd H b (.dK ls) ∧ ks.length = ls.length ∧ (∀ p ∈ ks, valV ls p.1 = some p.2 ∧ flatB p.2 = true) ∧ Q (.bl r) H
theorem rd_obj {pins : List (Addr × Obj)} {σ : St} {H : Hp} {s : Shared} {a : Addr} {u : HO} (I : Inv X pins σ H s) (h : Rd H a u) : ObjOk X.prog X.w H s.heap a u := by
  rcases h with h | ⟨o, h⟩
  · exact I.hok a _ h
  · exact (I.hok a _ h).2
theorem op_like (hu : X.A.units < cLine) : OpR X (compareOp .Eq) (rLike true) := by
  intro pins s σ H x y v u Q I rx ry h
  obtain ⟨a, b, ks, ls, e1, e2, ra, rb, hl, hp, q⟩ := h
  subst e1 e2
  cases rx
  cases ry
  obtain ⟨_, ya, va, r1, d1⟩ := rd_obj I ra
  obtain ⟨_, yb, vb, r2, d2⟩ := rd_obj I rb
  have h3 : va.length = vb.length := by rw [← r1.length, ← r2.length, hl]
  exact PySem.W.keq_eq (knd := mixKind X.prog X.w) (r := true) ya yb d1 d2 hu (fun _ => hits_all r2 r1 hp) (fin_bl I q (by simp [h3]))
theorem op_unlike (hu : X.A.units < cLine) : OpR X (compareOp .NotEq) (rLike false) := by
  intro pins s σ H x y v u Q I rx ry h
  obtain ⟨a, b, ks, ls, e1, e2, ra, rb, hl, hp, q⟩ := h
  subst e1 e2
  cases rx
  cases ry
  obtain ⟨_, ya, va, r1, d1⟩ := rd_obj I ra
  obtain ⟨_, yb, vb, r2, d2⟩ := rd_obj I rb
  have h3 : va.length = vb.length := by rw [← r1.length, ← r2.length, hl]
  exact PySem.W.keq_ne (knd := mixKind X.prog X.w) (r := true) ya yb d1 d2 hu (fun _ => hits_all r2 r1 hp) (fin_bl I q (by simp [h3]))
def flatEq : D → D → Bool
  | .none, .none => true
  | .bool b, .bool b' => decide (b = b')
  | .int i, .int j => decide (i = j)
  | .str u, .str v => decide (u = v)
  | _, _ => false
theorem flatEq_ok {d e : D} (h : flatEq d e = true) : d = e ∧ flatD e = true := by
  unfold flatEq at h
  split at h
  · exact ⟨rfl, rfl⟩
  · rw [of_decide_eq_true h]; exact ⟨rfl, rfl⟩
  · rw [of_decide_eq_true h]; exact ⟨rfl, rfl⟩
  · rw [of_decide_eq_true h]; exact ⟨rfl, rfl⟩
  · cases h
def sameAt : Option D → D → Bool
  | some d, e => flatEq d e
  | none, _ => false
theorem sameAt_ok {o : Option D} {e : D} (h : sameAt o e = true) : o = some e ∧ flatD e = true := by
  cases o with
  | none => cases h
  | some d => exact ⟨congrArg some (flatEq_ok h).1, (flatEq_ok h).2⟩
/-- the same keys, each with the same flat thing -/
def likeB (k1 k2 : List (D × D)) : Bool := decide (k1.length = k2.length) && k1.all fun p => sameAt (valAt k2 p.1) p.2
theorem flat_flat {K : Fg} {G : Wd} {v : V} {d : D} (h : Dq K G v d) (f : flatD d = true) : flatB v = true := by
  cases h <;> first | rfl | cases f
theorem flat_inj {K : Fg} {G : Wd} {v v' : V} {d : D} (h : Dq K G v d) (h' : Dq K G v' d) (f : flatD d = true) : v = v' := by
  cases h <;> cases h' <;> first | rfl | cases f
theorem dqkv_each {K : Fg} {G : Wd} {P : Key → V → D → Prop} : ∀ {ks : List (Key × V)} {ds : List (D × D)}, DqKV K G ks ds → (∀ k d, (keyD k, d) ∈ ds → ∀ v, Dq K G v d → P k v d) → ∀ p ∈ ks, ∃ d, P p.1 p.2 d
  | _, _, .nil, _, p, m => by cases m
  | _, _, .cons (k := k) (v := v) (d := d) r t, h, p, m => by
    rcases List.mem_cons.mp m with e | m
    · subst e; exact ⟨d, h k d List.mem_cons_self v r⟩
    · exact dqkv_each t (fun k d m => h k d (List.mem_cons_of_mem _ m)) p m
theorem like_read {K : Fg} {G : Wd} {H : Hp} {x y : V} {k1 k2 : List (D × D)} {b : Bool} {Q : VK} (l : Lh G H) (dx : Dq K G x (.dict k1)) (dy : Dq K G y (.dict k2)) (h : likeB k1 k2 = true) (q : Q (.bl b) H) : rLike b x y H Q := by
  cases dx with
  | dic ha ra =>
    cases dy with
    | dic hb rb =>
      simp only [likeB, Bool.and_eq_true, decide_eq_true_eq, List.all_eq_true] at h
      refine ⟨_, _, _, _, rfl, rfl, l.sub.rd _ _ (fun _ _ z => by cases z) ha.rd, l.sub.rd _ _ (fun _ _ z => by cases z) hb.rd, by rw [ra.length, rb.length]; exact h.1, fun p m => ?_, q⟩
      obtain ⟨d, w⟩ := dqkv_each (P := fun k v d => valV _ k = some v ∧ flatB v = true) ra (fun k d md v r => by
        obtain ⟨e, f⟩ := sameAt_ok (h.2 _ md)
        dsimp only at e f
        rcases dqkv_val (k := k) rb with ⟨_, z⟩ | ⟨v', d', z1, z2, r'⟩
        · rw [z] at e; cases e
        · rw [z2] at e
          cases e
          exact ⟨by rw [z1, flat_inj r' r f], flat_flat r f⟩) p m
      exact w
def dEqK (d e : D) : Res D := match d, e with
  | .dict k1, .dict k2 => if likeB k1 k2 = true then .ok (.bool true) else .stuck
  | _, _ => .stuck
def dNeK (d e : D) : Res D := match d, e with
  | .dict k1, .dict k2 => if likeB k1 k2 = true then .ok (.bool false) else .stuck
  | _, _ => .stuck
theorem dEqK_ok {d e : D} {q : D} (h : dEqK d e = .ok q) : ∃ k1 k2, d = .dict k1 ∧ e = .dict k2 ∧ likeB k1 k2 = true ∧ q = .bool true := by
  unfold dEqK at h
  split at h
  · rename_i k1 k2
    obtain ⟨a, b⟩ := ite_res h
    exact ⟨k1, k2, rfl, rfl, a, b.symm⟩
  · cases h
theorem dNeK_ok {d e : D} {q : D} (h : dNeK d e = .ok q) : ∃ k1 k2, d = .dict k1 ∧ e = .dict k2 ∧ likeB k1 k2 = true ∧ q = .bool false := by
  unfold dNeK at h
  split at h
  · rename_i k1 k2
    obtain ⟨a, b⟩ := ite_res h
    exact ⟨k1, k2, rfl, rfl, a, b.symm⟩
  · cases h
theorem o_eqK (hu : X.A.units + 64 < cLine) : Op2 X T c W (compareOp .Eq) dEqK := Op2.mk (op_like (by omega)) (fun G H x y d e q Q l dx dy hq k => by
  obtain ⟨k1, k2, rfl, rfl, h, rfl⟩ := dEqK_ok hq
  exact like_read l dx dy h (k.1 _ (.bl _))) fun d e y z => by
  unfold dEqK at z
  split at z
  · exact ite_nx z
  · cases z
theorem o_neK (hu : X.A.units + 64 < cLine) : Op2 X T c W (compareOp .NotEq) dNeK := Op2.mk (op_unlike (by omega)) (fun G H x y d e q Q l dx dy hq k => by
  obtain ⟨k1, k2, rfl, rfl, h, rfl⟩ := dNeK_ok hq
  exact like_read l dx dy h (k.1 _ (.bl _))) fun d e y z => by
  unfold dNeK at z
  split at z
  · exact ite_nx z
  · cases z
end
end Mi
set_option Elab.async false
set_option linter.all false
set_option maxRecDepth 100000
set_option maxHeartbeats 4000000
/-! ### sorted(set(xs)): texts, whole numbers -/
namespace Mi
open PySem L2
section
variable {P : Program} {w : World} {κ : Type} [DecidableEq κ]
/-- the set at a: S its members, n their number; its table rises -/
def SetG (knd : PySem.KeyKind P w κ) (kf : Value → κ) (h : Heap) (a : Addr) (S : κ → Bool) (n : Nat) : Prop :=
  ∃ ob rows ep tb, h.get? a = some ob ∧ ob.ExactSet ∧ ob.data = .set rows ep tb ∧ ElemsOf knd rows.toList ∧ (rows.toList.map fun e => kf e.2).Nodup ∧ (∀ k, S k = true ↔ k ∈ rows.toList.map fun e => kf e.2) ∧
    rows.size < scanBound ∧ tb.fits rows.size = true ∧ rows.size = n ∧ Ris tb.place.toList ∧ (w.params.followText "set-order" = true ∨ tb.led = true)
theorem SetG.at {knd : PySem.KeyKind P w κ} {kf : Value → κ} {h h' : Heap} {a : Addr} {S : κ → Bool} {n : Nat} (R : SetG knd kf h a S n) (k : ∀ o, h.get? a = some o → h'.get? a = some o) : SetG knd kf h' a S n := by
  obtain ⟨ob, rows, ep, tb, h0, more⟩ := R
  exact ⟨ob, rows, ep, tb, k _ h0, more⟩
/-- kf tells the key -/
def Tells (knd : PySem.KeyKind P w κ) (kf : Value → κ) : Prop := ∀ k v, knd.is k v = true → kf v = k
theorem tells_mem {knd : PySem.KeyKind P w κ} {kf : Value → κ} (tl : Tells knd kf) {l : List (Int × Value)} (el : ElemsOf knd l) (k : κ) : (k ∈ l.map fun e => kf e.2) ↔ ∃ e ∈ l, knd.is k e.2 = true := by
  rw [List.mem_map]
  constructor
  · rintro ⟨e, he, q⟩
    obtain ⟨⟨k', h1, _⟩, _⟩ := el e he
    have h2 := tl k' e.2 h1
    exact ⟨e, he, by rw [← q, h2]; exact h1⟩
  · rintro ⟨e, he, q⟩
    exact ⟨e, he, tl k e.2 q⟩
section
variable {A : Around} {E : Value → Shared → Prop} {s : Shared} {a : Addr} {S : κ → Bool} {n : Nat} {knd : PySem.KeyKind P w κ} {kf : Value → κ}
theorem setG_tail {g : Bool → Sem Unit} (hg : ∀ (b : Bool) (z : Shared) (Q' : Unit → Shared → Prop), Q' () z → wpAny (model P w) A (g b) Q' E z)
    {ob : Obj} {rows : Array (Int × Value)} {ep : Nat} {tb : SetTable} (h0 : s.heap.get? a = some ob) (hx : ob.ExactSet) (hdat : ob.data = .set rows ep tb)
    {r1 : Array (Int × Value)} {t2 : SetTable} {S' : κ → Bool} (el1 : ElemsOf knd r1.toList) (u1 : (r1.toList.map fun e => kf e.2).Nodup) (m1 : ∀ k, S' k = true ↔ k ∈ r1.toList.map fun e => kf e.2)
    (b1 : r1.size < scanBound) (f2 : t2.fits r1.size = true) (rs : Ris t2.place.toList) (ld : w.params.followText "set-order" = true ∨ t2.led = true) {was : Bool} {R : Option Bool → Shared → Prop}
    (hR : ∀ h', Heap.SameBut a s.heap h' → SetG knd kf h' a S' r1.size → R (some true) { s with heap := h' }) :
    wpAny (model P w) A (do
        storeSet a r1 t2
        if (!was && t2.tooFull) = true then do
            g (relayAll t2 r1 (SetTable.grown r1.size)).2.2
            storeSet a (relayAll t2 r1 (SetTable.grown r1.size)).1 (relayAll t2 r1 (SetTable.grown r1.size)).2.1
            pure (some true)
          else pure (some true)) R E s := by
  refine wpAny_bind (wpAny_storeSet_of h0 hdat ?_ (fits_of_scanBound b1))
  have g1 := L2.store_at (es' := r1) (t' := t2) h0 hdat
  have same1 := Heap.SameBut.update s.heap a (Obj.putSet r1 t2)
  split
  · have pm := relayAll_perm t2 r1 (SetTable.grown r1.size)
    have f3 := relayAll_fits t2 r1 (SetTable.grown r1.size)
    have rs3 := L2.relayAll_ris t2 r1 (SetTable.grown r1.size)
    have ld3 := L2.relayAll_led t2 r1 (SetTable.grown r1.size)
    generalize relayAll t2 r1 (SetTable.grown r1.size) = Z at pm f3 rs3 ld3 ⊢
    obtain ⟨r2, t3, gave⟩ := Z
    dsimp only at pm f3 rs3 ld3 ⊢
    have sz : r2.size = r1.size := by rw [← Array.length_toList, pm.length_eq, Array.length_toList]
    have b2 : r2.size < scanBound := by rw [sz]; exact b1
    refine wpAny_bind (hg _ _ _ ?_)
    refine wpAny_bind (wpAny_storeSet_of g1 rfl ?_ (fits_of_scanBound b2))
    have g2 := L2.store_at (es' := r2) (t' := t3) g1 rfl
    refine wpAny_pure (hR _ (same1.trans (Heap.SameBut.update _ a _)) ?_)
    exact ⟨_, r2, _, t3, g2, hx, rfl, fun e he => el1 e (pm.mem_iff.mp he), (pm.map fun e => kf e.2).nodup_iff.mpr u1, fun k => (m1 k).trans (pm.map fun e => kf e.2).mem_iff.symm, b2, f3, sz, rs3,
      ld.imp id fun z => by rw [ld3]; exact z⟩
  · exact wpAny_pure (hR _ same1 ⟨_, r1, _, t2, g1, hx, rfl, el1, u1, m1, b1, f2, rfl, rs, ld⟩)
theorem setG_add (tl : Tells knd kf) {k : κ} {v : Value} {Q : Bool → Shared → Prop} (hk : knd.is k v = true) (hsc : v.scannable = true) (R : SetG knd kf s.heap a S n) (room : n + 1 < scanBound)
    (hQ : ∀ h', Heap.SameBut a s.heap h' → SetG knd kf h' a (fun j => S j || decide (j = k)) (if S k = true then n else n + 1) → Q (!S k) { s with heap := h' }) :
    wpAny (model P w) A (setAddHashed a v (knd.hash k)) Q E s := by
  obtain ⟨ob, rows, ep, tb, h0, hx, hdat, el, nd, mb, lt, fit, sz, rs, ld⟩ := R
  unfold setAddHashed setAddHashedIn
  refine wpAny_holding (wpAny_bind (wpAny_setState_of h0 hdat fit ?_))
  dsimp only
  rw [byScan_of hsc lt el]
  simp only [↓reduceIte]
  unfold setAddByScan
  refine wpAny_bind ?_
  refine wpAny_bind (wpAny_rule ?_)
  refine wpAny_bind (wpAny_setScan_of hk h0 hdat fit el ?_)
  cases fi : List.findIdx? (fun e => knd.is k e.2) rows.toList with
  | some j =>
    dsimp only
    obtain ⟨hj, pj, _⟩ := List.findIdx?_eq_some_iff_getElem.mp fi
    have yes : S k = true := (mb k).2 ((tells_mem tl el k).2 ⟨rows.toList[j], List.getElem_mem hj, pj⟩)
    refine wpAny_pure (wpAny_pure ?_)
    have q := hQ s.heap (Heap.SameBut.refl a s.heap) ⟨ob, rows, ep, tb, h0, hx, hdat, el, nd, fun i => by
      rw [Bool.or_eq_true, decide_eq_true_eq, ← mb i]
      exact ⟨fun z => z.elim id (fun e => e ▸ yes), .inl⟩, lt, fit, by rw [if_pos yes]; exact sz, rs, ld⟩
    rw [yes] at q
    exact q
  | none =>
    dsimp only
    have nk : k ∉ rows.toList.map fun e => kf e.2 := fun z => by
      obtain ⟨e, he, q⟩ := (tells_mem tl el k).1 z
      have c := List.findIdx?_eq_none_iff.mp fi e he
      rw [q] at c
      cases c
    have no : S k = false := by
      cases q : S k with
      | false => rfl
      | true => exact absurd ((mb k).1 q) nk
    have gw : ∀ (b : Bool) {z : Shared} {Q' : Unit → Shared → Prop}, Q' () z → wpAny (model P w) A (match b with | true => rule "set.scan.the-table-gave-way" | false => pure ()) Q' E z :=
      fun b z Q' q => by cases b <;> first | exact wpAny_pure q | exact wpAny_rule q
    have pm := layNew_perm tb rows (knd.hash k) v
    have f1 := layNew_fits tb rows (knd.hash k) v
    have rs1 := L2.layNew_ris tb rows (knd.hash k) v rs
    have ld1 := L2.layNew_led tb rows (knd.hash k) v
    generalize layNew tb rows (knd.hash k) v = Z at pm f1 rs1 ld1 ⊢
    obtain ⟨r1, t1, was, gave⟩ := Z
    dsimp only at pm f1 rs1 ld1 ⊢
    rw [Array.toList_push] at pm
    have pc : r1.toList.Perm ((knd.hash k, v) :: rows.toList) := pm.trans (List.perm_append_singleton _ _)
    have pk : (r1.toList.map fun e => kf e.2).Perm (k :: rows.toList.map fun e => kf e.2) := by
      have z := pc.map fun e : Int × Value => kf e.2
      rw [List.map_cons, show kf v = k from tl k v hk] at z
      exact z
    have el1 : ElemsOf knd r1.toList := fun e he => by
      rcases List.mem_cons.mp (pc.mem_iff.mp he) with z | z
      · rw [z]; exact ⟨⟨k, hk, rfl⟩, hsc⟩
      · exact el e z
    have u1 : (r1.toList.map fun e => kf e.2).Nodup := pk.nodup_iff.mpr (List.nodup_cons.mpr ⟨nk, nd⟩)
    have m1 : ∀ i, (S i || decide (i = k)) = true ↔ i ∈ r1.toList.map fun e => kf e.2 := fun i => by
      rw [Bool.or_eq_true, decide_eq_true_eq, mb i, pk.mem_iff, List.mem_cons]
      exact Or.comm
    have sz1 : r1.size = n + 1 := by rw [← Array.length_toList, pc.length_eq, List.length_cons, Array.length_toList, sz]
    have lt1 : r1.size < scanBound := by rw [sz1]; exact room
    have ld2 : w.params.followText "set-order" = true ∨ t1.led = true := ld.imp id fun z => by rw [ld1]; exact z
    have fin : ∀ h', Heap.SameBut a s.heap h' → SetG knd kf h' a (fun j => S j || decide (j = k)) r1.size → Q true { s with heap := h' } := fun h' sb r => by
      have q := hQ h' sb
      rw [no] at q
      rw [sz1] at r
      exact q r
    refine wpAny_bind (gw _ ?_)
    split
    · refine wpAny_bind ?_
      rw [hashByValue_scannable 8 hsc]
      refine wpAny_pure ?_
      refine setG_tail ?_ h0 hx hdat el1 u1 m1 lt1 ?_ ?_ ?_ ?_
      · intro b z Q' q; cases b <;> first | exact wpAny_pure q | exact wpAny_rule q
      · first | (split <;> first | exact f1 | exact SetTable.fits_plain_off f1) | exact f1
      · first | (split <;> exact rs1) | exact rs1
      · first | (split <;> exact ld2) | exact ld2
      · intro h' sb r; dsimp only; exact wpAny_pure (fin h' sb r)
    · refine wpAny_bind (wpAny_pure ?_)
      simp only [↓reduceIte]
      refine setG_tail ?_ h0 hx hdat el1 u1 m1 lt1 f1 rs1 ld2 ?_
      · intro b z Q' q; cases b <;> first | exact wpAny_pure q | exact wpAny_rule q
      · intro h' sb r; dsimp only; exact wpAny_pure (fin h' sb r)
abbrev ledSet (w : World) : Obj := { cls := .type "set", dict := none, data := .set #[] 0 (.fresh 0 0 (!w.params.followText "set-order")) }
theorem setG_new {h : Heap} (knd : PySem.KeyKind P w κ) (kf : Value → κ) (xs : List κ) (h0 : h.get? a = some (ledSet w)) : SetG knd kf h a (fun j => decide (j ∈ xs.take 0)) 0 :=
  ⟨_, #[], 0, _, h0, ⟨rfl, rfl, rfl⟩, rfl, (fun e he => by simp at he), (by simp), (fun k => by simp), (by decide), (by rfl), rfl, List.Pairwise.nil, by
    show _ ∨ (!w.params.followText "set-order") = true
    cases w.params.followText "set-order"
    · exact .inr rfl
    · exact .inl rfl⟩
theorem setG_update (tl : Tells knd kf) {I : Addr} {fp wr : List Addr} {G : Array GenState → Array GenState → Prop} {m : Nat} {Pv : Nat → Value → Prop} {St : Nat → Shared → Prop} {R : Result → Shared → Prop}
    (W : WalksS P w A.in1 I fp wr G m Pv St) (T : Addr) (hT : T ∉ fp) (xs : List κ) (hz : m = xs.length) (hb : xs.length + 1 < scanBound) (hv : ∀ i v, Pv i v → ∃ k, xs[i]? = some k ∧ knd.is k v = true ∧ v.scannable = true) :
    ∀ (q i : Nat) (s : Shared), m - i = q → i ≤ m → St i s → (∃ c, c ≤ i ∧ SetG knd kf s.heap T (fun j => decide (j ∈ xs.take i)) c) →
      (∀ s' c, Moved (T :: wr) G s s' → c ≤ m → SetG knd kf s'.heap T (fun j => decide (j ∈ xs)) c → R (.ok (.ret .none)) s') →
      codeAny (model P w) A (.builtin "set.update.loop" ⟨[.ref T, .ref I], []⟩) R s := by
  have nT : T ∉ wr := fun z => hT (W.sub _ z)
  have up : ∀ b ∈ wr, b ∈ T :: wr := fun _ z => List.mem_cons_of_mem _ z
  intro q
  induction q with
  | zero =>
    intro i s e1 e2 st ⟨c, cl, R0⟩ fin
    obtain rfl : i = m := by omega
    refine codeAny_builtin PyProof.Rows.F.entry_set_update_loop ?_
    rw [Around.under_plainId (PyProof.Rows.F.plain_set_update_loop) _]
    show wpAny _ (A.in1) (pyNext (.ref I) >>= _) _ _ s
    refine wpAny_bind (W.done s _ _ st fun s1 mv => ?_)
    show wpAny _ (A.in1) (ret Value.none) _ _ s1
    have e : xs.take i = xs := List.take_of_length_le (by omega)
    rw [e] at R0
    exact wpAny_pure (fin s1 c (mv.mono up) cl (R0.at fun o e => mv.heap T o nT e))
  | succ q ih =>
    intro i s e1 e2 st ⟨c, cl, R0⟩ fin
    have lt : i < m := by omega
    refine codeAny_builtin PyProof.Rows.F.entry_set_update_loop ?_
    rw [Around.under_plainId (PyProof.Rows.F.plain_set_update_loop) _]
    show wpAny _ (A.in1) (pyNext (.ref I) >>= _) _ _ s
    refine wpAny_bind (W.item i s _ _ lt st fun v s1 hp st1 mv => ?_)
    obtain ⟨u, hu, hi, hsc⟩ := hv i v hp
    have R1 := R0.at fun o e => mv.heap T o nT e
    show wpAny _ (A.in1) (holding [v] (setAdd T v) >>= _) _ _ s1
    refine wpAny_bind (wpAny_holding ?_)
    unfold setAdd
    refine wpAny_holding (wpAny_bind (knd.pyHash (k := u) hi ?_))
    refine setG_add tl (s := { s1 with toks := s1.toks + 1 }) hi hsc R1 (by omega) fun h2 sb R2 => ?_
    have et : xs.take (i + 1) = xs.take i ++ [u] := by rw [List.take_succ, hu]; rfl
    have R3 : SetG knd kf h2 T (fun j => decide (j ∈ xs.take (i + 1))) (if decide (u ∈ xs.take i) = true then c else c + 1) := by
      have e : (fun j => decide (j ∈ xs.take (i + 1))) = fun j => decide (j ∈ xs.take i) || decide (j = u) := by
        funext j
        rw [et]
        by_cases z : j = u
        · simp [z]
        · simp [z]
      rw [e]
      exact R2
    refine wpAny_pure ⟨plainId_quiet (PyProof.Rows.F.plain_set_update_loop) _, ih (i + 1) _ (by omega) lt (W.frame _ s1 _ _ st1 (Nat.le_succ _) fun b mb o eb => ?_) ⟨_, ?_, R3⟩ fun s2 c2 mv2 l2 R4 => ?_⟩
    · rw [sb.2 b (fun y : b = T => hT (by rw [← y]; exact mb))]; exact eb
    · split <;> omega
    · refine fin s2 c2 (Moved.trans W.gtrans ((mv.mono up).then_heap (Nat.le_succ _) fun b o nb eb => ?_) mv2) l2 R4
      rw [sb.2 b (fun y : b = T => nb (by rw [y]; exact List.mem_cons_self))]; exact eb
set_option maxHeartbeats 3200000 in
theorem call_setG (tl : Tells knd kf) {l : Addr} {its : Array Value} (xs : List κ) {Q : Value → Shared → Prop} (hh : A.handled = none) (hl : s.heap.IsList l its) (hz : its.size = xs.length) (hb : xs.length + 1 < scanBound)
    (vl : ∀ (i : Nat) (v : Value), its[i]? = some v → ∃ k, xs[i]? = some k ∧ knd.is k v = true ∧ v.scannable = true)
    (k : ∀ (h2 : Heap) (tk c : Nat), SetG knd kf h2 s.heap.objs.size (fun z => decide (z ∈ xs)) c → c ≤ xs.length → (∀ b o, s.heap.get? b = some o → h2.get? b = some o) → Q (.ref s.heap.objs.size) { s with heap := h2, toks := tk }) :
    wpAny (model P w) A (call (.type "set") [.ref l]) Q E s := by
  obtain ⟨cM, tM, mM⟩ := PySem.F.called_set.mro
  have mk1 := PySem.F.called_set.made
  have mk2 := PySem.F.called_set.sub
  refine wpAny_call (codeAny_of_tree ?_)
  show wpAny _ _ (callAny (Value.type "set") _) _ _ _
  refine wpAny_pure ⟨Code.quiet_builtin _ (by decide +kernel), codeAny_builtin (PySem.F.entry_type_call) ?_⟩
  rw [Around.under_plain (weight_type_call_type "set" [Value.ref l] []) rfl]
  have nt := PySem.F.called_set.notType
  have cc := PySem.F.called_set.canCreate
  have tc := PySem.F.typeCall_set_1 (Value.ref l)
  repeat any_goals first | assumption | wp_step
  refine codeAny_mono (L2.code_set_led1 (Value.ref l) (E := E) (Q₁ := fun ob s1 => ob = .ref s.heap.objs.size ∧ s1 = { s with heap := s.heap.push (ledSet w) }) ⟨rfl, rfl⟩) fun r s1 hr => ?_
  cases r with
  | error e => exact hr
  | ok fl =>
    cases fl with
    | ret ob =>
      obtain ⟨rfl, rfl⟩ := hr
      have g1 : (s.heap.push (ledSet w)).get? s.heap.objs.size = some (ledSet w) := Heap.get?_push_size _ rfl
      have ty : Shared.TypeIs { s with heap := s.heap.push (ledSet w) } (.ref s.heap.objs.size) "set" := ⟨_, g1, rfl⟩
      have li := PySem.F.called_set.init.lookup
      have bi := PySem.F.called_set.init.bind (Value.ref s.heap.objs.size)
      repeat any_goals first | assumption | wp_step
      refine codeAny_mono (codeAny_call_builtin (R := wants (fun r s2 => r = .none ∧ ∃ h2 tk c, s2 = { s with heap := h2, toks := tk } ∧ SetG knd kf h2 s.heap.objs.size (fun z => decide (z ∈ xs)) c ∧ c ≤ xs.length ∧ (∀ b o, s.heap.get? b = some o → h2.get? b = some o)) E) PySem.F.called_set.init.plain PySem.F.entry_set_init (check_set_init_1 ty ?_)) fun r2 s2 hr2 => ?_
      · obtain ⟨ob, hob, hc1, nl, hd1⟩ := hl
        obtain ⟨oc, od, oda, osl⟩ := ob
        simp only at hc1 hd1
        subst hc1 hd1
        have g2 : (s.heap.push (ledSet w)).get? l = some { cls := .type "list", dict := od, data := .seq its nl, slots := osl } := Heap.get?_push_of_some _ hob
        have q1 := PySem.F.sub_list_set
        have q2 := PySem.F.sub_list_frozenset
        have q3 : (Value.type "list" == Value.type "dict") = false := by decide
        have l1 : (s.heap.push (ledSet w)).IsList l its := ⟨_, g2, rfl, nl, rfl⟩
        unfold Builtin.«set.__init__» noKeywords Builtin.Frozenset.updateFrom
        generalize hPI : pyIter = PI
        wp_walk
        subst hPI
        refine wpAny_pyIter_list l1 (wpAny_bind (wpAny_runValue ?_))
        have lS : l < s.heap.objs.size := Heap.lt_size hob
        have h3 : A.in1.in1.in1.handled = none := by simp [hh]
        have nI : l ≠ (s.heap.push (ledSet w)).objs.size := by
          rw [Heap.size_push]; exact Nat.ne_of_lt (Nat.lt_succ_of_lt lS)
        have nS : s.heap.objs.size ∉ [(s.heap.push (ledSet w)).objs.size, l] := by
          rw [Heap.size_push]
          simp only [List.mem_cons, List.not_mem_nil, or_false, not_or]
          exact ⟨Nat.ne_of_lt (Nat.lt_succ_self _), Nat.ne_of_gt lS⟩
        refine setG_update tl ((Walks.list h3 _ l nI its).toS) s.heap.objs.size nS xs hz hb vl (its.size - 0) 0 _ (by omega) (Nat.zero_le _) ⟨⟨_, Heap.get?_push_size _ rfl, rfl, rfl⟩, (l1.push _)⟩ ?hzero ?hend
        case hzero =>
          have g3 : ((s.heap.push (ledSet w)).push { cls := .type "list_iterator", data := .fields #[.ref l, .int 0 0] }).get? s.heap.objs.size = some (ledSet w) := Heap.get?_push_of_some _ g1
          exact ⟨0, Nat.le_refl 0, setG_new knd kf xs g3⟩
        case hend =>
          intro s3 c3 mv l3 R3
          obtain ⟨hp, gn, dr, tk, os⟩ := s3
          obtain rfl : gn = s.gens := mv.gens
          obtain rfl : dr = s.drawn := mv.drawn
          obtain rfl : os = s.os := mv.os
          show wpAny _ _ _ _ _ _
          refine wpAny_pure ?_
          show wpAny _ _ (ret Value.none) _ _ _
          refine wpAny_pure ⟨rfl, hp, tk, c3, rfl, R3, by omega, fun b o e => ?_⟩
          have lb := Heap.lt_size e
          have n1 : b ≠ s.heap.objs.size := Nat.ne_of_lt lb
          have n2 : b ≠ (s.heap.push (ledSet w)).objs.size := by
            rw [Heap.size_push]; exact Nat.ne_of_lt (Nat.lt_succ_of_lt lb)
          exact mv.heap b o (by simp only [List.mem_cons, List.not_mem_nil, or_false, not_or]; exact ⟨n1, n2⟩) (Heap.get?_push_of_some _ (Heap.get?_push_of_some _ e))
      · cases r2 with
        | error e => exact hr2
        | ok f2 =>
          cases f2 with
          | ret r =>
            obtain ⟨rfl, h2, tk, c2, rfl, R2, l2, k2⟩ := hr2
            repeat any_goals first | assumption | wp_step
            exact k _ _ _ R2 l2 k2
          | _ => exact hr2.elim
    | _ => exact hr.elim
end
end
def vStr : Value → Str
  | .str u _ => u
  | _ => Str.empty
theorem tells_str (P : Program) (w : World) : Tells (PySem.strKind P w) vStr := fun k v h => by
  obtain ⟨t, rfl⟩ := Value.isStrOf_shape (show Value.isStrOf k v = true from h)
  rfl
theorem tells_int (P : Program) (w : World) : Tells (PySem.intKind P w) L2.vInt := fun k v h => by
  obtain ⟨t, rfl⟩ := Value.isInt_shape (k := k) (v := v) h
  rfl
theorem strs_kf : ∀ {vs : List Value}, (∀ v ∈ vs, ∃ u t, v = Value.str u t) → PyProof.Rows.StrsAre vs (vs.map vStr)
  | [], _ => .nil
  | v :: vs, h => by
    obtain ⟨u, t, rfl⟩ := h v List.mem_cons_self
    exact .cons u t (strs_kf fun x m => h x (List.mem_cons_of_mem _ m))
section
variable {P : Program} {w : World} {A : Around} {E : Value → Shared → Prop} {s : Shared} {a : Addr} {n : Nat}
theorem sortedU {S : Str → Bool} {Q : Value → Shared → Prop} (R : SetG (PySem.strKind P w) vStr s.heap a S n) (hh : A.handled = none)
    (hQ : ∀ s' p (out : Array Value) (c : Nat) (us : List Str), (∀ b o, s.heap.get? b = some o → s'.heap.get? b = some o) → s'.gens = s.gens → s'.os = s.os → s.heap.objs.size ≤ p →
      s'.heap.get? p = some (PyProof.Rows.seqObj "list" out c) → PyProof.Rows.StrsAre out.toList us → us.Nodup → (∀ k, k ∈ us ↔ S k = true) → PyProof.Rows.sortedS us = true → Q (.ref p) s') :
    wpAny (model P w) A (call (.builtin "sorted") [.ref a]) Q E s := by
  obtain ⟨ob, rows, ep, tb, h0, hx, hdat, el, nd, mb, lt, fit, sz, rs, ld⟩ := R
  refine Calls.call_function_entry PyProof.Rows.kind_sorted PyProof.Rows.plain_sorted PyProof.Rows.entry_sorted (PyProof.Rows.args_sorted1 _) ?_
  unfold Builtin.«sorted»
  refine wpAny_bind (m := checkCount "sorted" 1 1 _) (wpAny_pure ?_)
  refine wpAny_bind (L2.collect_set (A := A.in1) hh ⟨ob, h0, hx.1, hdat⟩ fit lt rs ld fun s1 vs k1 hz g1 o1 pm => ?_)
  have hvl : vs.length = rows.size := by rw [pm.length_eq, List.length_map, Array.length_toList]
  have hI : PyProof.Rows.StrsAre vs (vs.map vStr) := strs_kf fun v hv => by
    obtain ⟨e, he, q⟩ := List.mem_map.mp (pm.mem_iff.mp hv)
    obtain ⟨⟨k, h1, _⟩, _⟩ := el e he
    obtain ⟨t, h2⟩ := Value.isStrOf_shape (show Value.isStrOf k e.2 = true from h1)
    exact ⟨k, t, q.symm.trans h2⟩
  have pk : (vs.map vStr).Perm (rows.toList.map fun e => vStr e.2) := by
    have q := pm.map vStr
    rw [List.map_map] at q
    exact q
  have big : vs.length ≤ sizeLine := by rw [hvl]; exact PySem.fits_of_scanBound lt
  refine wpAny_bind (wpAny_newList ?_ big)
  have hoL : (s1.heap.push (PyProof.Rows.seqObj "list" vs.toArray 0)).get? s1.heap.objs.size = some (PyProof.Rows.seqObj "list" vs.toArray 0) := Heap.get?_push_size _ rfl
  refine wpAny_bind (wpAny_holding (wpAny_call_entry PyProof.Rows.slot_list_sort ⟨_, hoL, rfl⟩ PyProof.Rows.entry_list_sort (PyProof.Rows.list_sort_treeKAny PyProof.Rows.strKind_oneLt hoL hI.keysOf (fun v1 v2 rest e => PyProof.Rows.keyKind_strs (by rw [← e]; exact hI)) big fun st' b1 b2 => ⟨_, rfl, ?_⟩) (PyProof.Rows.args_list_sort _)))
  obtain ⟨us, c1, c2, c3⟩ := PyProof.Rows.sorted_out_str hI b1 b2
  obtain ⟨c, hc⟩ := PyProof.Rows.sortedHeap_at (vs := vs) (out := (PyProof.Rows.arrOf st').map (·.2)) hoL
  have pn := c2.trans pk
  refine wpAny_pure ⟨_, rfl, hQ _ s1.heap.objs.size _ c us (fun b u e => ?_) g1 o1 hz hc c1 (pn.nodup_iff.mpr nd) (fun k => by rw [pn.mem_iff, ← mb k]) c3⟩
  have q := k1 b u e
  have hlt := Heap.lt_size q
  show (PyProof.Rows.sortedHeap (s1.heap.push (PyProof.Rows.seqObj "list" vs.toArray 0)) s1.heap.objs.size vs _).get? b = some u
  rw [PyProof.Rows.sortedHeap_old (Nat.ne_of_lt hlt) (by rw [PyProof.Rows.size_push']; exact Nat.lt_succ_of_lt hlt)]
  exact Heap.get?_push_of_some _ q
theorem setR_of {S : Int → Bool} {h : Heap} (R : SetG (PySem.intKind P w) L2.vInt h a S n) : L2.SetR w h a S n := by
  obtain ⟨ob, rows, ep, tb, h0, hx, hdat, el, nd, mb, lt, fit, sz, rs, ld⟩ := R
  have e : (rows.toList.map fun e => L2.vInt e.2) = rows.toList.map L2.keyOf := List.map_congr_left fun e _ => (L2.key_vInt e).symm
  rw [e] at nd
  refine ⟨ob, rows, ep, tb, h0, hx, hdat, fun e he => ?_, nd, fun k => by rw [mb k, ← e], lt, fit, sz, rs, ld⟩
  obtain ⟨⟨k, h1, h2⟩, _⟩ := el e he
  obtain ⟨t, h3⟩ := Value.isInt_shape (k := k) (v := e.2) h1
  exact ⟨k, t, h3, h2⟩
end
end Mi
set_option Elab.async false
set_option linter.all false
set_option maxRecDepth 100000
set_option maxHeartbeats 4000000
namespace Mi
open PySem L2
/-- the unlike ones -/
def ddL {α : Type} [DecidableEq α] : List α → List α
  | [] => []
  | a :: l => if a ∈ ddL l then ddL l else a :: ddL l
theorem ddL_mem {α : Type} [DecidableEq α] (x : α) : ∀ l : List α, x ∈ ddL l ↔ x ∈ l
  | [] => Iff.rfl
  | a :: l => by
    unfold ddL
    by_cases h : a ∈ ddL l
    · rw [if_pos h, ddL_mem x l, List.mem_cons]
      refine ⟨.inr, fun z => z.elim (fun e => ?_) id⟩
      rw [e]; exact (ddL_mem a l).mp h
    · rw [if_neg h, List.mem_cons, List.mem_cons, ddL_mem x l]
theorem ddL_nodup {α : Type} [DecidableEq α] : ∀ l : List α, (ddL l).Nodup
  | [] => List.nodup_nil
  | a :: l => by
    unfold ddL
    by_cases h : a ∈ ddL l
    · rw [if_pos h]; exact ddL_nodup l
    · rw [if_neg h]; exact List.nodup_cons.mpr ⟨h, ddL_nodup l⟩
theorem ddL_id {α : Type} [DecidableEq α] : ∀ l : List α, l.Nodup → ddL l = l
  | [], _ => rfl
  | a :: l, h => by
    obtain ⟨h1, h2⟩ := List.nodup_cons.mp h
    unfold ddL
    rw [ddL_id l h2, if_neg h1]
theorem ddL_len {α : Type} [DecidableEq α] : ∀ l : List α, (ddL l).length ≤ l.length
  | [] => Nat.le_refl _
  | a :: l => by
    have h := ddL_len l
    unfold ddL
    split
    · exact Nat.le_succ_of_le h
    · exact Nat.succ_le_succ h
/-- sorted(set(xs)) -/
def sortSet : D → Res D
  | .list xs => match toStrs xs with
    | some us => if us.length < 1000 then .ok (.list (sortL ((ddL us).map .str))) else .stuck
    | none => .stuck
  | _ => .stuck
def sortSetE (f : MM D) : MM D := MM.bind f fun x => lift (sortSet x)
section
variable {X : Cx} {T : Tb} {c : Gh} {W : WX} {a e : Expr} {f : MM D}
def tSortU (K : Fg) (ta : TE) : TE := fun σ H Q => ta σ H fun x H1 => ∃ l us, x = .ref l ∧ SqL K H1 l (us.map V.str) ∧ us.length < 1000 ∧
  ∀ ys p, ys.Perm (ddL us) → PyProof.Rows.sortedS ys = true → H1 p = none → Q (.ref p) (upd H1 p (.lst (ys.map V.str)))
theorem vals_strs : ∀ {us : List Str} {vs : List Value}, PyProof.Rows.StrsAre vs us → Vals (us.map V.str) vs
  | _, _, .nil => .nil
  | _, _, .cons n t r => .cons ⟨t, rfl⟩ (vals_strs r)
theorem pe_sortU {ta : TE} {p p2 q pos : Pos} (hc : X.calm = true) (hg : Gl X "sorted") (hm : X.mg "sorted" = none) (hg2 : Gl X "set") (hm2 : X.mg "set" = none) (ha : PE X a ta) (na : starEach [a] X.env = (false, eval a X.env) :: starEach [] X.env := by rfl) :
    PE X (.Call (.Name "sorted" p) [.Call (.Name "set" p2) [a] [] q] [] pos) (tSortU X.K ta) := by
  refine ⟨fun pins s σ H Q I h => ?_⟩
  refine PyProof.Rows.Call_ (ld_blt I hg hm PyProof.Rows.boot_sorted (PyProof.Rows.callWith_builtin1 (PyProof.Rows.args_cons (PyProof.Rows.Call_ (ld_blt (u := .type "set") I hg2 hm2 (by decide +kernel) ?_)) rfl) rfl rfl))
  refine PyProof.Rows.callWith_type1 (PyProof.Rows.args_cons (thn (ha.run pins s σ H _ I h) fun v s1 ⟨x, H1, I1, r1, q1⟩ => PyProof.Rows.args_nil ?_) na) na rfl
  obtain ⟨l, us, rfl, hq, h1, q1⟩ := q1
  cases r1
  obtain ⟨its, r, pl, hz⟩ := I1.list hq
  have hs : PyProof.Rows.StrsAre its us := strsAre_of r
  have sz : its.toArray.size = us.length := by rw [List.size_toArray, ← PyProof.Rows.StrsAre.len_eq hs]
  refine call_setG (tells_str X.prog X.w) us (I1.ok.hd hc) pl.isList sz (by unfold scanBound; omega) (fun i v e => ?_) fun h2 tk cn R cl k => ?_
  · obtain ⟨t, e2⟩ := SS.strs_at hs i v (by simpa using e)
    have lt : i < us.length := by rw [← sz]; exact (Array.getElem?_eq_some_iff.mp e).1
    refine ⟨us[i], List.getElem?_eq_getElem lt, ?_, ?_⟩
    · rw [e2, List.getD_eq_getElem?_getD, List.getElem?_eq_getElem lt]; exact strKind_is _ _ _ _
    · rw [e2]; rfl
  refine PyProof.Rows.args_nil ?_
  have I2 : Inv X pins σ H1 { s1 with heap := h2, toks := tk } := I1.kept fun b o e => k b o e
  refine sortedU (s := { s1 with heap := h2, toks := tk }) R (I2.ok.hd hc) fun s' p0 out c2 ys k2 g2 o2 hp hg3 hstr und mem srt => ?_
  have hn : H1 p0 = none := I2.hok.fresh hp
  have pm : ys.Perm (ddL us) := (List.perm_ext_iff_of_nodup und (ddL_nodup us)).mpr fun z => by
    rw [mem z, ddL_mem, decide_eq_true_eq]
  have hlen : (ys.map V.str).length ≤ sizeLine := by
    rw [List.length_map, pm.length_eq, sizeLine_eq]
    have : (ddL us).length ≤ us.length := ddL_len us
    omega
  have I3 : Inv X pins σ (upd H1 p0 (.lst (ys.map V.str))) { ({ s1 with heap := h2, toks := tk } : Shared) with heap := s'.heap, gens := s'.gens, drawn := s'.drawn, toks := s'.toks } :=
    I2.call (ch := []) (Un.laid k2 hp hn) (I2.hok.laid k2 hp ⟨hlen, out.toList, c2, vals_strs hstr, hg3⟩) (by rw [g2]; exact I2.bare) (fun _ z => nomatch z)
  have e : s' = { ({ s1 with heap := h2, toks := tk } : Shared) with heap := s'.heap, gens := s'.gens, drawn := s'.drawn, toks := s'.toks } := by
    cases s'
    cases s1
    cases o2
    rfl
  rw [e]
  exact ⟨.ref p0, _, I3, rfl, q1 ys p0 pm srt hn⟩
theorem me_sortset {p p2 q pos : Pos} (hc : X.calm = true) (hg : Gl X "sorted") (hm : X.mg "sorted" = none) (hg2 : Gl X "set") (hm2 : X.mg "set" = none) (ha : PE X a (mE X.K T c W f)) (na : starEach [a] X.env = (false, eval a X.env) :: starEach [] X.env := by rfl) :
    PE X (.Call (.Name "sorted" p) [.Call (.Name "set" p2) [a] [] q] [] pos) (mE X.K T c W (sortSetE f)) := by
  refine pe_mono (pe_sortU hc hg hm hg2 hm2 ha na) fun σ H Q ⟨G, ρ, j, p⟩ => ?_
  refine pX_bind j p fun x v ρ1 G1 H1 l1 j1 r1 p1 => ?_
  cases x with
  | list xs =>
    unfold sortSet at p1
    dsimp only at p1
    cases h : toStrs xs with
    | none => rw [h] at p1; exact p1.elim
    | some us =>
      rw [h] at p1
      by_cases hl : us.length < 1000
      · simp only [hl, if_true] at p1
        cases r1 with
        | lst hr hd =>
          have ev := vs_strs hd h
          subst ev
          refine ⟨_, us, rfl, .inl (j1.subH.rd _ _ (fun _ _ z => by cases z) hr), hl, fun ys p0 pm srt hn => ?_⟩
          refine p1 _ _ _ (Le.upd (j1.fresh hn)) (j1.grow hn (fun _ z => by cases z)) ?_
          rw [← sorted_strs_eq pm srt]
          exact .lst (.inl upd_same) (dq_strs ys)
      · simp only [hl, if_false] at p1
        exact p1.elim
  | _ => exact p1.elim
/-- <= of texts -/
def dLeT : D → D → Res D
  | .str i, .str j => .ok (.bool (!decide (j.cps.toList < i.cps.toList)))
  | _, _ => .stuck
theorem o_leT : Op2 X T c W (compareOp .LtE) dLeT := Op2.mk op_le_str (fun G H x y d e q Q l dx dy hq k => by
  cases dx <;> cases dy <;> first | (cases hq; exact ⟨_, _, rfl, rfl, k.1 _ (.bl _)⟩) | (exact nomatch hq)) fun d e y z => by cases d <;> cases e <;> exact nomatch z
end
end Mi
set_option Elab.async false
set_option linter.all false
set_option maxRecDepth 100000
set_option maxHeartbeats 4000000
namespace Mi
open PySem L2
/-! ### refusals go through -/
section
variable {ρ : MSt} {f f1 f2 f3 : MM D} {g g' : D → D → Res D} {t t1 t2 : MM Bool} {s s1 s2 : MM Fl} {i : Nat} {x y z d : D} {b b' : Bool} {p : Prop} [Decidable p] {e : Exn} {ga : MM (List D)} {fm : List D → Res D}
@[simp] theorem op2K_exn : op2K g f2 (.exn e ρ) = .exn e ρ := rfl
@[simp] theorem op2L_exn : op2L g x (.exn e ρ) = .exn e ρ := rfl
@[simp] theorem tstK_exn : tstK (.exn e ρ) = .exn e ρ := rfl
@[simp] theorem andTK_exn : andTK t2 (.exn e ρ) = .exn e ρ := rfl
@[simp] theorem orTK_exn : orTK t2 (.exn e ρ) = .exn e ρ := rfl
@[simp] theorem notTK_exn : notTK (.exn e ρ) = .exn e ρ := rfl
@[simp] theorem andK_exn : andK f2 (.exn e ρ) = .exn e ρ := rfl
@[simp] theorem orK_exn : orK f2 (.exn e ρ) = .exn e ρ := rfl
@[simp] theorem notK_exn : notK (.exn e ρ) = .exn e ρ := rfl
@[simp] theorem chainA_exn : chainA g g' f2 f3 (.exn e ρ) = .exn e ρ := rfl
@[simp] theorem chainB_exn : chainB g g' f3 x (.exn e ρ) = .exn e ρ := rfl
@[simp] theorem ifEK_exn : ifEK f1 f2 (.exn e ρ) = .exn e ρ := rfl
@[simp] theorem consK_exn : consK ga (.exn e ρ) = .exn e ρ := rfl
@[simp] theorem consJ_exn : consJ x (.exn e ρ) = .exn e ρ := rfl
@[simp] theorem callK_exn : callK fm (.exn e ρ) = .exn e ρ := rfl
@[simp] theorem ifSK_exn : ifSK s1 s2 (.exn e ρ) = .exn e ρ := rfl
@[simp] theorem iterK_exn : iterK (.exn e ρ) = .exn e ρ := rfl
@[simp] theorem raiseS_ap {c : Str} : raiseS c ρ = .exn ⟨c, none⟩ ρ := rfl
variable {ns : List Str}
@[simp] theorem toldE_ap : toldE ns f ρ = toldK ns (f ρ) := rfl
@[simp] theorem toldK_ok : toldK ns (.ok x ρ) = .ok x ρ := rfl
theorem toldK_exn {c : Str} : toldK ns (.exn ⟨c, none⟩ ρ) = if c ∈ ns then .ok (.tuple [.str "refused", .str c]) ρ else .stuck := by
  unfold toldK toldX
  dsimp only
  split <;> rfl
@[simp] theorem toldK_ite {o o' : Out D} : toldK ns (if p then o else o') = if p then toldK ns o else toldK ns o' := by split <;> rfl
@[simp] theorem mkOL_ap {xs : List D} : mkOL xs = if small xs.length = true then .ok (.ol xs) else .stuck := rfl
end
def negK (o : Out D) : Out D := Out.bind o fun x => match x with
  | .int i => MM.pure (.int (-i))
  | _ => stuck
@[simp] theorem negE_ap {f : MM D} {ρ : MSt} : negE f ρ = negK (f ρ) := rfl
@[simp] theorem negK_int {i : Int} {ρ : MSt} : negK (.ok (.int i) ρ) = .ok (.int (-i)) ρ := rfl
def get1K (f2 : MM D) (o : Out D) : Out D := Out.bind o fun x => match x with
  | .dict kvs => MM.bind f2 fun k => match keyOf k with
    | some _ => MM.pure ((valAt kvs k).getD .none)
    | none => stuck
  | _ => stuck
@[simp] theorem get1E_ap {f1 f2 : MM D} {ρ : MSt} : get1E f1 f2 ρ = get1K f2 (f1 ρ) := rfl
@[simp] theorem get1K_ok {f2 : MM D} {ρ : MSt} {kvs : List (D × D)} : get1K f2 (.ok (.dict kvs) ρ) = Out.bind (f2 ρ) fun k => match keyOf k with | some _ => MM.pure ((valAt kvs k).getD .none) | none => stuck := rfl
@[simp] theorem dMul_list {xs : List D} {k : Int} : dMul (.list xs) (.int k) = if -(2 ^ 63) ≤ k ∧ k < 2 ^ 63 ∧ xs.length * k.toNat ≤ sizeLine then .ok (.list (List.replicate k.toNat xs).flatten) else .stuck := rfl
/-! ### statements by what they come to -/
theorem seqS_assoc (a b c : MM Fl) : seqS (seqS a b) c = seqS a (seqS b c) := by
  funext ρ
  show seqK c (seqK b (a ρ)) = seqK (seqS b c) (a ρ)
  cases a ρ with
  | ok fl ρ1 => cases fl <;> rfl
  | exn e ρ1 => rfl
  | stuck => rfl
theorem wp_seq {s1 s2 : MM Fl} {ρ : MSt} {P : Fl → MSt → Prop} (h : Wp (s1 ρ) fun fl ρ' => fl = .nx ∧ Wp (s2 ρ') P) : Wp (seqS s1 s2 ρ) P := by
  obtain ⟨fl, ρ', e, rfl, h⟩ := h
  show Wp (seqK s2 (s1 ρ)) P
  rw [e]
  exact h
theorem wp_imp {α : Type} {o : Out α} {P Q : α → MSt → Prop} (h : Wp o P) (k : ∀ a ρ, P a ρ → Q a ρ) : Wp o Q := by
  obtain ⟨a, ρ, e, p⟩ := h
  exact ⟨a, ρ, e, k a ρ p⟩
@[simp] theorem wp_ok {α : Type} {a : α} {ρ : MSt} {P : α → MSt → Prop} : Wp (.ok a ρ) P ↔ P a ρ := by
  constructor
  · rintro ⟨_, _, e, p⟩
    cases e
    exact p
  · exact fun p => ⟨a, ρ, rfl, p⟩
/-- a step whose end is told by an equation -/
theorem wp_step {s1 s2 : MM Fl} {ρ ρ' : MSt} {P : Fl → MSt → Prop} (h : s1 ρ = .ok .nx ρ') (k : Wp (s2 ρ') P) : Wp (seqS s1 s2 ρ) P := wp_seq ⟨.nx, ρ', h, rfl, k⟩
/-! ### comprehensions over encoded lists -/
theorem getE_wipe {os : List Nat} {ρ ρ' : MSt} (hw : wipeM ρ' os = wipeM ρ os) {i : Nat} (h : i ∉ os) : ρ'[i]? = ρ[i]? := by
  rw [← wipeM_out (ρ := ρ') h, ← wipeM_out (ρ := ρ) h, hw]
theorem restore_same {os : List Nat} {ρ ρ' : MSt} (hw : wipeM ρ' os = wipeM ρ os) (hs : ∀ i ∈ os, keepd ρ[i]? = (ρ[i]?).getD none) : restore os ρ ρ' = ρ := by
  unfold restore
  apply List.ext_getElem?
  intro i
  rw [List.getElem?_map]
  by_cases hi : i < ρ.length
  · rw [List.getElem?_range hi]
    show some (if i ∈ os then keepd ρ[i]? else (ρ'[i]?).getD none) = ρ[i]?
    rw [List.getElem?_eq_getElem hi]
    by_cases m : i ∈ os
    · rw [if_pos m]
      have := hs i m
      rw [List.getElem?_eq_getElem hi] at this
      rw [this]; rfl
    · rw [if_neg m, getE_wipe hw m, List.getElem?_eq_getElem hi]
      rfl
  · rw [List.getElem?_eq_none (l := ρ) (by omega), List.getElem?_eq_none (by simpa using hi)]
    rfl
section
variable {α : Type} {os : List Nat} {gt : D → MSt → Option MSt} {t : MM Bool} {el : MM D} {enc f : α → D} {p : α → Bool} {ρ : MSt}
theorem compD_filT : ∀ {l : List α} {acc : List D} {ρ' : MSt}, acc.length + l.length < 16777216 → wipeM ρ' os = wipeM ρ os →
    (∀ a ∈ l, ∃ ρ1, gt (enc a) (wipeM ρ os) = some ρ1 ∧ wipeM ρ1 os = wipeM ρ os ∧ t ρ1 = .ok (p a) ρ1 ∧ (p a = true → el ρ1 = .ok (f a) ρ1)) →
    ∃ ρ2, compD os gt t el (l.map enc) acc ρ' = .ok (acc ++ (l.filter p).map f) ρ2 ∧ wipeM ρ2 os = wipeM ρ os
  | [], acc, ρ', _, hw, _ => ⟨ρ', by simp, hw⟩
  | a :: l, acc, ρ', hl, hw, h => by
    obtain ⟨ρ1, h1, h2, h3, h4⟩ := h a List.mem_cons_self
    have hl1 : acc.length < 16777216 := by simp at hl; omega
    rw [List.map_cons, compD_cons, hw, h1, compG_some, h3, compT_ok]
    cases hp : p a with
    | true =>
      obtain ⟨ρ2, e, w⟩ := compD_filT (l := l) (acc := acc ++ [f a]) (ρ' := ρ1) (by simp at hl ⊢; omega) h2 fun b m => h b (List.mem_cons_of_mem _ m)
      refine ⟨ρ2, ?_, w⟩
      rw [if_pos rfl, h4 hp, compE_ok, if_pos (by rw [size_eq]; exact hl1), e, List.filter_cons_of_pos hp]
      simp
    | false =>
      obtain ⟨ρ2, e, w⟩ := compD_filT (l := l) (acc := acc) (ρ' := ρ1) (by simp at hl ⊢; omega) h2 fun b m => h b (List.mem_cons_of_mem _ m)
      refine ⟨ρ2, ?_, w⟩
      rw [if_neg (by simp), e, List.filter_cons_of_neg (by simp [hp])]
theorem compL_filT {l : List α} (hl : l.length < 16777216) (hs : ∀ i ∈ os, keepd ρ[i]? = (ρ[i]?).getD none)
    (h : ∀ a ∈ l, ∃ ρ1, gt (enc a) (wipeM ρ os) = some ρ1 ∧ wipeM ρ1 os = wipeM ρ os ∧ t ρ1 = .ok (p a) ρ1 ∧ (p a = true → el ρ1 = .ok (f a) ρ1)) :
    compL os gt t el (l.map enc) ρ = .ok (.list ((l.filter p).map f)) ρ := by
  obtain ⟨ρ2, e, w⟩ := compD_filT (acc := []) (ρ' := ρ) (by simpa using hl) rfl h
  rw [compL_ap, e, compLK_ok, restore_same w hs]
  rfl
theorem compL_mapT {l : List α} (hl : l.length < 16777216) (hs : ∀ i ∈ os, keepd ρ[i]? = (ρ[i]?).getD none)
    (h : ∀ a ∈ l, ∃ ρ1, gt (enc a) (wipeM ρ os) = some ρ1 ∧ wipeM ρ1 os = wipeM ρ os ∧ el ρ1 = .ok (f a) ρ1) :
    compL os gt (MM.pure true) el (l.map enc) ρ = .ok (.list (l.map f)) ρ := by
  have e := compL_filT (os := os) (gt := gt) (t := MM.pure true) (el := el) (enc := enc) (f := f) (p := fun _ => true) (ρ := ρ) hl hs fun a m => by
    obtain ⟨ρ1, h1, h2, h3⟩ := h a m
    exact ⟨ρ1, h1, h2, rfl, fun _ => h3⟩
  rw [List.filter_eq_self.mpr (fun _ _ => rfl)] at e
  exact e
end
/-! ### loops over encoded lists -/
section
variable {α β : Type} {gt : D → MSt → Option MSt} {s : MM Fl} {enc : α → D}
theorem forD_fold (R : β → MSt → Prop) {step : β → α → β} : ∀ {l : List α} {b : β} {ρ : MSt}, (∀ b ρ a, a ∈ l → R b ρ → ∃ ρ1 ρ2 fl, gt (enc a) ρ = some ρ1 ∧ s ρ1 = .ok fl ρ2 ∧ (fl = .nx ∨ fl = .ct) ∧ R (step b a) ρ2) → R b ρ → ∃ ρ', forD gt s (l.map enc) ρ = .ok .nx ρ' ∧ R (l.foldl step b) ρ'
  | [], b, ρ, _, hR => ⟨ρ, rfl, hR⟩
  | a :: l, b, ρ, h, hR => by
    obtain ⟨ρ1, ρ2, fl, h1, h2, h3, h4⟩ := h b ρ a List.mem_cons_self hR
    obtain ⟨ρ', e, r⟩ := forD_fold R (l := l) (b := step b a) (ρ := ρ2) (fun b ρ a m => h b ρ a (List.mem_cons_of_mem _ m)) h4
    refine ⟨ρ', ?_, r⟩
    rw [List.map_cons, forD_cons, h1, forG_some, h2]
    rcases h3 with rfl | rfl
    · exact e
    · exact e
theorem forD_find (R : MSt → Prop) {p : α → Bool} {f : α → D} : ∀ {l : List α} {ρ : MSt}, (∀ ρ a, a ∈ l → R ρ → ∃ ρ1 ρ2, gt (enc a) ρ = some ρ1 ∧ ((p a = true ∧ s ρ1 = .ok (.rt (f a)) ρ2) ∨ (p a = false ∧ (s ρ1 = .ok .nx ρ2 ∨ s ρ1 = .ok .ct ρ2) ∧ R ρ2))) → R ρ →
    (∃ a ρ', l.find? p = some a ∧ forD gt s (l.map enc) ρ = .ok (.rt (f a)) ρ') ∨ (l.find? p = none ∧ ∃ ρ', forD gt s (l.map enc) ρ = .ok .nx ρ' ∧ R ρ')
  | [], ρ, _, hR => .inr ⟨rfl, ρ, rfl, hR⟩
  | a :: l, ρ, h, hR => by
    obtain ⟨ρ1, ρ2, h1, h2⟩ := h ρ a List.mem_cons_self hR
    rw [List.map_cons, forD_cons, h1, forG_some]
    rcases h2 with ⟨hp, h2⟩ | ⟨hp, h2, h3⟩
    · exact .inl ⟨a, ρ2, by rw [List.find?_cons, hp], by rw [h2]; rfl⟩
    · have ih := forD_find R (l := l) (ρ := ρ2) (fun ρ a m => h ρ a (List.mem_cons_of_mem _ m)) h3
      rw [List.find?_cons, hp]
      rcases h2 with h2 | h2 <;> rw [h2] <;> exact ih
end
theorem forD_inv {gt : D → MSt → Option MSt} {s : MM Fl} (I : MSt → Prop) : ∀ {xs : List D} {ρ : MSt}, (∀ x ∈ xs, ∀ ρ, I ρ → ∃ ρ1, gt x ρ = some ρ1 ∧ Wp (s ρ1) fun fl ρ' => (fl = .nx ∨ fl = .ct) ∧ I ρ') → I ρ → Wp (forD gt s xs ρ) fun fl ρ' => fl = .nx ∧ I ρ'
  | [], ρ, _, h => ⟨.nx, ρ, rfl, rfl, h⟩
  | x :: xs, ρ, k, h => by
    obtain ⟨ρ1, e1, fl, ρ2, e2, hf, h2⟩ := k x List.mem_cons_self ρ h
    have ih := forD_inv I (xs := xs) (ρ := ρ2) (fun z m => k z (List.mem_cons_of_mem _ m)) h2
    rw [forD_cons, e1, forG_some, e2]
    rcases hf with rfl | rfl
    · exact ih
    · exact ih
/-- a comprehension that throws dice -/
theorem compD_inv {os : List Nat} {gt : D → MSt → Option MSt} {t : MM Bool} {el : MM D} {α : Type} (I : MSt → Prop) (enc : α → D) (P : α → Prop) : ∀ {xs acc : List D} {ρ : MSt}, acc.length + xs.length < 16777216 → (∀ x ∈ xs, ∀ ρ, I ρ → ∃ ρ1, gt x (wipeM ρ os) = some ρ1 ∧ t ρ1 = .ok true ρ1 ∧ Wp (el ρ1) fun y ρ2 => I ρ2 ∧ ∃ a, y = enc a ∧ P a) → I ρ →
    Wp (compD os gt t el xs acc ρ) fun ys ρ' => I ρ' ∧ ∃ l : List α, ys = acc ++ l.map enc ∧ l.length = xs.length ∧ ∀ a ∈ l, P a
  | [], acc, ρ, _, _, h => ⟨acc, ρ, rfl, h, [], by simp, rfl, by simp⟩
  | x :: xs, acc, ρ, l, k, h => by
    obtain ⟨ρ1, e1, e2, y, ρ2, e3, h2, a, rfl, pa⟩ := k x List.mem_cons_self ρ h
    have l1 : acc.length < 16777216 := by simp at l; omega
    obtain ⟨ys, ρ3, e4, h3, zs, e5, e6, e7⟩ := compD_inv I enc P (xs := xs) (acc := acc ++ [enc a]) (ρ := ρ2) (by simp at l ⊢; omega) (fun z m => k z (List.mem_cons_of_mem _ m)) h2
    refine ⟨ys, ρ3, ?_, h3, a :: zs, by rw [e5]; simp, by simp [e6], fun b m => ?_⟩
    · rw [compD_cons, e1, compG_some, e2]
      simp [e3, l1, e4]
    · rcases List.mem_cons.mp m with e | m
      · rw [e]; exact pa
      · exact e7 b m
/-! ### all, any, sum over encoded lists -/
theorem toBools_map {α : Type} (f : α → Bool) : ∀ l : List α, toBools (l.map fun a => .bool (f a)) = some (l.map f)
  | [] => rfl
  | a :: l => by rw [List.map_cons, toBools_cons, toBools_map f l]; rfl
theorem toInts_map {α : Type} (f : α → Int) : ∀ l : List α, toInts (l.map fun a => .int (f a)) = some (l.map f)
  | [] => rfl
  | a :: l => by rw [List.map_cons, toInts_cons, toInts_map f l]; rfl
theorem dAll_map {α : Type} (f : α → Bool) (l : List α) : dAll [.list (l.map fun a => .bool (f a))] = .ok (.bool (l.all f)) := by
  rw [dAll_list, toBools_map]
  dsimp only
  rw [List.all_map]
  rfl
theorem dAny_map {α : Type} (f : α → Bool) (l : List α) : dAny [.list (l.map fun a => .bool (f a))] = .ok (.bool (l.any f)) := by
  rw [dAny_list, toBools_map]
  dsimp only
  rw [List.any_map]
  rfl
theorem dSum_map {α : Type} (f : α → Int) (l : List α) : dSum [.list (l.map fun a => .int (f a))] = .ok (.int (l.map f).sum) := by
  rw [dSum_list, toInts_map]
end Mi
set_option Elab.async false
set_option linter.all false
set_option maxRecDepth 100000
set_option maxHeartbeats 4000000
namespace Mi
open PySem L2
/-! ### what may be compared -/
structure Flt (n : Nat) (d : D) : Prop where
  nd : noDict d = true
  ly : d.canLay0 = true
  dp : d.depth ≤ n
theorem Flt.ok {n : Nat} {d : D} (h : Flt n d) (hn : n ≤ 64 := by decide) : eqOk d = true := by
  rw [eqOk_eq, h.nd, h.ly, decide_eq_true (Nat.le_trans h.dp hn)]
  rfl
theorem Flt.up {n m : Nat} {d : D} (h : Flt n d) (hn : n ≤ m := by decide) : Flt m d := ⟨h.nd, h.ly, Nat.le_trans h.dp hn⟩
theorem flt_int (i : Int) : Flt 0 (.int i) := ⟨rfl, rfl, by simp [D.depth, D.py, PyData.depth]⟩
theorem flt_bool (b : Bool) : Flt 0 (.bool b) := ⟨rfl, rfl, by simp [D.depth, D.py, PyData.depth]⟩
theorem flt_none : Flt 0 .none := ⟨rfl, rfl, by simp [D.depth, D.py, PyData.depth]⟩
theorem flt_str {u : Str} (h : PyData.strOk u = true) : Flt 0 (.str u) := ⟨rfl, by simp [D.canLay0, D.py, PyData.canLay0, h], by simp [D.depth, D.py, PyData.depth]⟩
theorem flt_all {n : Nat} : ∀ {xs : List D}, (∀ x ∈ xs, Flt n x) → noDicts xs = true ∧ D.canLayAll0 xs = true ∧ D.depthAll xs ≤ n
  | [], _ => ⟨rfl, rfl, by simp [D.depthAll, pys, PyData.depthAll]⟩
  | x :: xs, h => by
    have h1 := h x List.mem_cons_self
    obtain ⟨a, b, c⟩ := flt_all (xs := xs) fun y m => h y (List.mem_cons_of_mem _ m)
    refine ⟨?_, ?_, ?_⟩
    · show (noDict x && noDicts xs) = true
      rw [h1.nd, a]; rfl
    · have h2 := h1.ly
      unfold D.canLayAll0 at b ⊢
      unfold D.canLay0 at h2
      rw [pys, PyData.canLayAll0, h2, b]; rfl
    · have := h1.dp
      unfold D.depthAll at c ⊢
      unfold D.depth at this
      rw [pys, PyData.depthAll]
      omega
theorem flt_tuple {n : Nat} {xs : List D} (h : ∀ x ∈ xs, Flt n x) : Flt (n + 1) (.tuple xs) := by
  obtain ⟨a, b, c⟩ := flt_all h
  exact ⟨a, by unfold D.canLay0; rw [D.py, PyData.canLay0]; exact b, by unfold D.depthAll at c; unfold D.depth; rw [D.py, PyData.depth]; omega⟩
theorem flt_list {n : Nat} {xs : List D} (h : ∀ x ∈ xs, Flt n x) : Flt (n + 1) (.list xs) := by
  obtain ⟨a, b, c⟩ := flt_all h
  exact ⟨a, by unfold D.canLay0; rw [D.py, PyData.canLay0]; exact b, by unfold D.depthAll at c; unfold D.depth; rw [D.py, PyData.depth]; omega⟩
theorem eqv_self {d : D} (h : eqOk d = true) : D.eqv d d = true := by
  rw [eqOk_eq] at h
  simp only [Bool.and_eq_true] at h
  exact SeqAt.eqv_refl d.py h.2.1
theorem ne_self {d : D} (h : eqOk d = true) : dNe d d = .ok (.bool false) := by
  rw [dNe_ap, if_pos ⟨h, h⟩, eqv_self h]
  rfl
theorem eq_self {d : D} (h : eqOk d = true) : dEq d d = .ok (.bool true) := by
  rw [dEq_ap, if_pos ⟨h, h⟩, eqv_self h]
end Mi
set_option Elab.async false
set_option linter.all false
set_option maxRecDepth 100000
set_option maxHeartbeats 4000000
namespace Mi
open PySem L2
inductive F2 {α β : Type} (R : α → β → Prop) : List α → List β → Prop
  | nil : F2 R [] []
  | cons {a : α} {b : β} {as : List α} {bs : List β} : R a b → F2 R as bs → F2 R (a :: as) (b :: bs)
theorem F2.length {α β : Type} {R : α → β → Prop} : ∀ {as : List α} {bs : List β}, F2 R as bs → as.length = bs.length
  | _, _, .nil => rfl
  | _, _, .cons _ t => by simp [F2.length t]
theorem F2.right {α β : Type} {R : α → β → Prop} {P : β → Prop} (h : ∀ a b, R a b → P b) : ∀ {as : List α} {bs : List β}, F2 R as bs → ∀ b ∈ bs, P b
  | _, _, .nil, b, m => by simp at m
  | _, _, .cons r t, b, m => by
    rcases List.mem_cons.mp m with e | m
    · rw [e]; exact h _ _ r
    · exact F2.right h t b m
theorem F2.map_eq {α β γ : Type} {R : α → β → Prop} {f : α → γ} {g : β → γ} (h : ∀ a b, R a b → f a = g b) : ∀ {as : List α} {bs : List β}, F2 R as bs → as.map f = bs.map g
  | _, _, .nil => rfl
  | _, _, .cons r t => by rw [List.map_cons, List.map_cons, h _ _ r, F2.map_eq h t]
/-- a comprehension that throws dice: each item by its own -/
theorem compD_rel {os : List Nat} {gt : D → MSt → Option MSt} {t : MM Bool} {el : MM D} {α β : Type} (I : MSt → Prop) (enc : α → D) (enc' : β → D) (R : α → β → Prop) : ∀ {l : List α} {acc : List D} {ρ : MSt}, acc.length + l.length < 16777216 →
    (∀ a ∈ l, ∀ ρ, I ρ → ∃ ρ1, gt (enc a) (wipeM ρ os) = some ρ1 ∧ t ρ1 = .ok true ρ1 ∧ Wp (el ρ1) fun y ρ2 => I ρ2 ∧ ∃ b, y = enc' b ∧ R a b) → I ρ →
    Wp (compD os gt t el (l.map enc) acc ρ) fun ys ρ' => I ρ' ∧ ∃ bs : List β, ys = acc ++ bs.map enc' ∧ F2 R l bs
  | [], acc, ρ, _, _, h => ⟨acc, ρ, rfl, h, [], by simp, .nil⟩
  | a :: l, acc, ρ, hl, k, h => by
    obtain ⟨ρ1, e1, e2, y, ρ2, e3, h2, b, rfl, r⟩ := k a List.mem_cons_self ρ h
    have l1 : acc.length < 16777216 := by simp at hl; omega
    obtain ⟨ys, ρ3, e4, h3, zs, e5, e6⟩ := compD_rel I enc enc' R (l := l) (acc := acc ++ [enc' b]) (ρ := ρ2) (by simp at hl ⊢; omega) (fun z m => k z (List.mem_cons_of_mem _ m)) h2
    refine ⟨ys, ρ3, ?_, h3, b :: zs, by rw [e5]; simp, .cons r e6⟩
    rw [List.map_cons, compD_cons, e1, compG_some, e2]
    simp [e3, l1, e4]
/-- .. some of the items, as dice fall -/
theorem compD_sub {os : List Nat} {gt : D → MSt → Option MSt} {t : MM Bool} {el : MM D} {α : Type} (I : MSt → Prop) (enc enc' : α → D) (force : α → Prop) : ∀ {l : List α} {acc : List D} {ρ : MSt}, acc.length + l.length < 16777216 →
    (∀ a ∈ l, ∀ ρ, I ρ → ∃ ρ1 b ρ2, gt (enc a) (wipeM ρ os) = some ρ1 ∧ t ρ1 = .ok b ρ2 ∧ (force a → b = true) ∧ (b = true → el ρ2 = .ok (enc' a) ρ2) ∧ I ρ2) → I ρ →
    ∃ (l' : List α) (ρ' : MSt), compD os gt t el (l.map enc) acc ρ = .ok (acc ++ l'.map enc') ρ' ∧ I ρ' ∧ l'.Sublist l ∧ ∀ a ∈ l, force a → a ∈ l'
  | [], acc, ρ, _, _, h => ⟨[], ρ, by simp, h, List.Sublist.refl _, by simp⟩
  | a :: l, acc, ρ, hl, k, h => by
    obtain ⟨ρ1, b, ρ2, e1, e2, e3, e4, h2⟩ := k a List.mem_cons_self ρ h
    have l1 : acc.length < 16777216 := by simp at hl; omega
    rw [List.map_cons, compD_cons, e1, compG_some, e2, compT_ok]
    cases b with
    | true =>
      obtain ⟨l', ρ', e5, h5, s5, f5⟩ := compD_sub I enc enc' force (l := l) (acc := acc ++ [enc' a]) (ρ := ρ2) (by simp at hl ⊢; omega) (fun z m => k z (List.mem_cons_of_mem _ m)) h2
      refine ⟨a :: l', ρ', ?_, h5, s5.cons₂ a, fun z m f => ?_⟩
      · rw [if_pos rfl, e4 rfl, compE_ok, if_pos (by rw [size_eq]; exact l1), e5]
        simp
      · rcases List.mem_cons.mp m with y | m
        · rw [y]; exact List.mem_cons_self
        · exact List.mem_cons_of_mem _ (f5 z m f)
    | false =>
      obtain ⟨l', ρ', e5, h5, s5, f5⟩ := compD_sub I enc enc' force (l := l) (acc := acc) (ρ := ρ2) (by simp at hl ⊢; omega) (fun z m => k z (List.mem_cons_of_mem _ m)) h2
      refine ⟨l', ρ', ?_, h5, s5.cons a, fun z m f => ?_⟩
      · rw [if_neg (by simp), e5]
      · rcases List.mem_cons.mp m with y | m
        · rw [y] at f; exact absurd (e3 f) (by simp)
        · exact f5 z m f
/-! ### dict comprehensions over encoded lists, the keys unlike texts -/
theorem hasKey_strs (u : Str) : ∀ kvs : List (Str × D), hasKey (.str u) (kvs.map fun p => (.str p.1, p.2)) = decide (u ∈ kvs.map (·.1))
  | [] => rfl
  | p :: kvs => by
    rw [List.map_cons, hasKey_cons, hasKey_strs u kvs, eqv_str, List.map_cons]
    by_cases z : p.1 = u
    · simp [z]
    · have z2 : ¬ u = p.1 := fun q => z q.symm
      simp [z, z2]
theorem put_new {u : Str} {v : D} {kvs : List (Str × D)} (h : u ∉ kvs.map (·.1)) : putD (kvs.map fun p => (.str p.1, p.2)) (.str u) v = (kvs ++ [(u, v)]).map fun p => (.str p.1, p.2) := by
  rw [putD_ap, hasKey_strs, decide_eq_false h]
  simp
section
variable {α : Type} {os : List Nat} {gt : D → MSt → Option MSt} {ek ev : MM D} {enc : α → D} {kf : α → Str} {vf : α → D} {ρ : MSt}
theorem compK_mapT : ∀ {l : List α} {acc : List (Str × D)} {ρ' : MSt}, acc.length + l.length < 16777216 → (∀ a ∈ l, kf a ∉ acc.map (·.1)) → (l.map kf).Nodup → wipeM ρ' os = wipeM ρ os →
    (∀ a ∈ l, ∃ ρ1, gt (enc a) (wipeM ρ os) = some ρ1 ∧ wipeM ρ1 os = wipeM ρ os ∧ ek ρ1 = .ok (.str (kf a)) ρ1 ∧ ev ρ1 = .ok (vf a) ρ1) →
    ∃ ρ2, compK os gt (MM.pure true) ek ev (l.map enc) (acc.map fun p => (.str p.1, p.2)) ρ' = .ok ((acc ++ l.map fun a => (kf a, vf a)).map fun p => (.str p.1, p.2)) ρ2 ∧ wipeM ρ2 os = wipeM ρ os
  | [], acc, ρ', _, _, _, hw, _ => ⟨ρ', by simp, hw⟩
  | a :: l, acc, ρ', hl, hn, nd, hw, h => by
    obtain ⟨ρ1, h1, h2, h3, h4⟩ := h a List.mem_cons_self
    rw [List.map_cons, List.nodup_cons] at nd
    obtain ⟨ρ2, e, w⟩ := compK_mapT (l := l) (acc := acc ++ [(kf a, vf a)]) (ρ' := ρ1) (by simp at hl ⊢; omega) (fun b m => by
      rw [List.map_append, List.mem_append, not_or]
      refine ⟨hn b (List.mem_cons_of_mem _ m), fun z => nd.1 ?_⟩
      simp at z
      rw [← z]
      exact List.mem_map.mpr ⟨b, m, rfl⟩) nd.2 h2 fun b m => h b (List.mem_cons_of_mem _ m)
    refine ⟨ρ2, ?_, w⟩
    have l1 : (acc.map fun p : Str × D => ((.str p.1 : D), p.2)).length < 16777216 := by simp at hl ⊢; omega
    rw [List.map_cons, compK_cons, hw, h1, compKG_some, pure_ap, compKT_ok, if_pos rfl, h3, compKE_ok, h4, compKV_ok, if_pos ⟨by rw [size_eq]; exact l1, rfl⟩, put_new (hn a List.mem_cons_self), e]
    simp
theorem compO_mapT {l : List α} (hl : l.length < 16777216) (nd : (l.map kf).Nodup) (hs : ∀ i ∈ os, keepd ρ[i]? = (ρ[i]?).getD none)
    (h : ∀ a ∈ l, ∃ ρ1, gt (enc a) (wipeM ρ os) = some ρ1 ∧ wipeM ρ1 os = wipeM ρ os ∧ ek ρ1 = .ok (.str (kf a)) ρ1 ∧ ev ρ1 = .ok (vf a) ρ1) :
    compO os gt (MM.pure true) ek ev (l.map enc) ρ = .ok (.od (l.map fun a => (.str (kf a), vf a))) ρ := by
  obtain ⟨ρ2, e, w⟩ := compK_mapT (acc := []) (ρ' := ρ) (by simpa using hl) (by simp) nd rfl h
  have e' : compK os gt (MM.pure true) ek ev (l.map enc) [] ρ = _ := e
  rw [compO_ap, e', compOK_ok, restore_same w hs]
  simp
end
theorem valAt_mapT {α : Type} (kf : α → Str) (vf : α → D) : ∀ {l : List α} {a : α}, (l.map kf).Nodup → a ∈ l → valAt (l.map fun a => (.str (kf a), vf a)) (.str (kf a)) = some (vf a)
  | b :: l, a, nd, m => by
    rw [List.map_cons, List.nodup_cons] at nd
    rw [List.map_cons, valAt_cons, eqv_str]
    rcases List.mem_cons.mp m with e | m
    · rw [e]; simp
    · have : kf b ≠ kf a := fun z => nd.1 (by rw [z]; exact List.mem_map.mpr ⟨a, m, rfl⟩)
      simp [this]
      exact valAt_mapT kf vf nd.2 m
theorem in_strs {α : Type} (f : α → Str) (u : Str) : ∀ l : List α, inB0 (.str u) (.list (l.map fun a => .str (f a))) = some (decide (u ∈ l.map f)) := by
  intro l
  show (if flatD (.str u) = true ∧ (l.map fun a => D.str (f a)).all flatD = true then some (inSeq (.str u) (l.map fun a => .str (f a))) else none) = _
  rw [if_pos ⟨rfl, by rw [List.all_map]; exact List.all_eq_true.mpr fun _ _ => rfl⟩]
  congr 1
  unfold inSeq
  rw [List.any_map, Bool.eq_iff_iff]
  simp only [List.any_eq_true, Function.comp, eqv_str, decide_eq_true_eq, List.mem_map]
theorem cut_from {α : Type} (f : α → D) (l : List α) (k : Nat) (h : k ≤ l.length) : cutD (l.map f) (some (k : Int)) none = (l.drop k).map f := by
  unfold cutD
  rw [HT.sIx_nat, HT.sIx_none, List.length_map, Nat.min_eq_left h, List.map_drop]
  exact List.take_of_length_le (by simp)
theorem cut_to {α : Type} (f : α → D) (l : List α) (k : Nat) (h : k ≤ l.length) : cutD (l.map f) none (some (k : Int)) = (l.take k).map f := by
  unfold cutD
  rw [HT.sIx_nat, HT.sIx_none, List.length_map, Nat.min_eq_left h, List.map_take]
  simp
theorem filter_one {α : Type} (kf : α → Str) : ∀ {l : List α} {a : α}, (l.map kf).Nodup → a ∈ l → l.filter (fun b => decide (kf b = kf a)) = [a]
  | b :: l, a, nd, m => by
    rw [List.map_cons, List.nodup_cons] at nd
    rcases List.mem_cons.mp m with e | m
    · subst e
      rw [List.filter_cons_of_pos (by simp)]
      congr 1
      rw [List.filter_eq_nil_iff]
      intro c mc
      have : kf c ≠ kf a := fun z => nd.1 (by rw [← z]; exact List.mem_map.mpr ⟨c, mc, rfl⟩)
      simp [this]
    · have : kf b ≠ kf a := fun z => nd.1 (by rw [z]; exact List.mem_map.mpr ⟨a, m, rfl⟩)
      rw [List.filter_cons_of_neg (by simp [this])]
      exact filter_one kf nd.2 m
theorem sort_id {l : List D} (h : l.Pairwise fun a b => leD a b = true) : sortL l = l := List.mergeSort_of_pairwise h
end Mi
set_option Elab.async false
set_option linter.all false
set_option maxRecDepth 100000
set_option maxHeartbeats 4000000
namespace Mi
open PySem L2
/-! ### the store behind the names -/
def stoOf (ρ : MSt) : Option (Bool × Sto) := match ρ[ρ.length - 1]? with
  | some (some (.sto b μ)) => some (b, μ)
  | _ => none
def setSto (ρ : MSt) (μ : Sto) : MSt := ρ.set (ρ.length - 1) (some (.sto true μ))
section
variable {K : Fg} {T : Tb} {c : Gh} {G G' : Wd} {H H' : Hp} {σ : St} {ρ : MSt} {μ μ' : Sto} {b : Bool}
theorem J.sto (j : J K T c G H σ ρ) (h : stoOf ρ = some (b, μ)) : ρ[σ.length]? = some (some (.sto b μ)) := by
  unfold stoOf at h
  have e : ρ.length - 1 = σ.length := by have := j.len; omega
  rw [e] at h
  split at h
  · rename_i b' μ' hq; cases h; exact hq
  · cases h
theorem J.stoOk (j : J K T c G H σ ρ) (h : stoOf ρ = some (b, μ)) : StoOk K T G H μ := (j.st b μ (j.sto h)).1
/-- what a step over the store leaves of the heap -/
structure KeptS (T : Tb) (G : Wd) (H : Hp) (G' : Wd) (H' : Hp) : Prop where
  g : Le G G'
  s : Lh G' H'
  n : ∀ a, G a = none → H a ≠ none → a ∉ G.m → G' a = none
  k : ∀ a o, H a = some o → a ∉ G.m → (∀ ps, o ≠ .tbl ps) → H' a = some o
  t : ∀ a ps, H a = some (.tbl ps) → ∃ ps', H' a = some (.tbl ps')
  tb : LamX.Tabs T H'
  nt : ∀ a ps, G' a ≠ some (.tbl ps)
  mg : ∀ a ∈ G'.m, a ∈ G.m ∨ H a = none
theorem J.afterS (j : J K T c G H σ ρ) (h : stoOf ρ = some (true, μ)) (q : KeptS T G H G' H') (so : StoOk K T G' H' μ') : J K T c G' H' σ (setSto ρ μ') := by
  have hs := j.sto h
  obtain ⟨al, pm⟩ := (j.st true μ hs).2 rfl
  have el : ρ.length - 1 = σ.length := by have := j.len; omega
  have at_ : ∀ {k : Nat} {s : S}, (setSto ρ μ')[k]? = some (some s) → (k = σ.length ∧ s = .sto true μ') ∨ (k ≠ σ.length ∧ ρ[k]? = some (some s)) := fun {k s} e => by
    unfold setSto at e
    rw [el] at e
    by_cases z : k = σ.length
    · subst z
      rw [List.getElem?_set_self (by have := j.len; omega)] at e
      cases e; exact .inl ⟨rfl, rfl⟩
    · rw [List.getElem?_set_ne (Ne.symm z)] at e; exact .inr ⟨z, e⟩
  have old : ∀ {k : Nat} {s : S}, (setSto ρ μ')[k]? = some (some s) → s.isSto = false → ρ[k]? = some (some s) := fun {k s} e ns => by
    rcases at_ e with ⟨_, rfl⟩ | ⟨_, e⟩
    · cases ns
    · exact e
  have nM : ∀ a, c.H0 a ≠ none → a ∉ c.M → a ∉ G.m := fun a h0 m z => (pm a z).elim h0 m
  refine ⟨q.s, j.g0.trans q.g, fun a g0 h0 m => q.n a (j.gn a g0 h0 m) (fun z => (j.H0none z).elim h0 m) (nM a h0 m), fun a o e m t => q.k a o (j.fr a o e m t) (nM a (by rw [e]; exact fun z => by cases z) m) t, fun a ps e => ?_, ?_, fun i s e ns => ?_, fun i s a e o e2 => j.ow i s a (old e (S.own_sto o)) o e2, fun i k s t a b e1 e2 o1 o2 f1 f2 n => j.ap i k s t a b (old e1 (S.own_sto o1)) (old e2 (S.own_sto o2)) o1 o2 f1 f2 n, q.tb, q.nt, fun b ν e => ?_, ?_⟩
  · obtain ⟨ps', z⟩ := j.ft a ps e
    exact q.t a ps' z
  · unfold setSto; rw [List.length_set]; exact j.len
  · have e := old e ns
    obtain ⟨v, e1, r⟩ := j.sl i s e ns
    refine ⟨v, e1, ?_⟩
    have keep : ∀ {a : Addr} {o : HO}, s.own = true → v = .ref a → G a = none → H a = some o → (∀ ps, o ≠ .tbl ps) → G' a = none ∧ H' a = some o := fun {a o} ow ev g hh t => by
      subst ev
      have nm : a ∉ G.m := fun m => j.mj.ow a m (mem_owns.mpr ⟨i, s, e, ow, e1⟩)
      exact ⟨q.n a g (by rw [hh]; exact fun z => by cases z) nm, q.k a o hh nm t⟩
    cases s with
    | d x => exact Dq.le r q.g
    | ol xs =>
      obtain ⟨a, vs, e2, g, hh, r⟩ := r
      obtain ⟨k1, k2⟩ := keep rfl e2 g hh (fun _ z => by cases z)
      exact ⟨a, vs, e2, k1, k2, r.le q.g⟩
    | od xs =>
      obtain ⟨a, vs, e2, g, hh, r⟩ := r
      obtain ⟨k1, k2⟩ := keep rfl e2 g hh (fun _ z => by cases z)
      exact ⟨a, vs, e2, k1, k2, r.le q.g⟩
    | dc xs =>
      obtain ⟨e0, a, vs, e2, g, hh, r⟩ := r
      obtain ⟨k1, k2⟩ := keep rfl e2 g hh (fun _ z => by cases z)
      exact ⟨e0, a, vs, e2, k1, k2, r.le q.g⟩
    | sto b μ => cases ns
  · rcases at_ e with ⟨_, z⟩ | ⟨z, _⟩
    · cases z
      refine ⟨so, fun _ => ⟨al, fun a m => ?_⟩⟩
      rcases q.mg a m with z | z
      · exact pm a z
      · exact j.H0none z
    · exact absurd rfl z
  · refine ⟨fun a m => (so.there m).2.imp fun o z => z.1, fun a m n => ?_, fun a m => ?_, fun z => by rw [al] at z; cases z⟩
    · have n' : a ∈ owns σ ρ := by
        obtain ⟨i, s, e1, e2, e3⟩ := mem_owns.mp n
        exact mem_owns.mpr ⟨i, s, old e1 (S.own_sto e2), e2, e3⟩
      rcases q.mg a m with z | z
      · exact j.mj.ow a z n'
      · exact j.notOwn z n'
    · rcases q.mg a m with z | z
      · exact j.mj.gr a z
      · exact .inr (j.H0none z)
theorem sto_set (so : StoOk K T G H μ) {n : Nat} {a : Addr} {u u' : Cell} {o' : HO} (hm : G.m[n]? = some a) (hu : μ[n]? = some u) (hc : CellAt K T G (upd H a o') a u') : StoOk K T G (upd H a o') (μ.set n u') := by
  have hn : n < μ.length := (List.getElem?_eq_some_iff.mp hu).1
  refine ⟨by rw [List.length_set]; exact so.len, so.nd, fun i b v e1 e2 => ?_⟩
  obtain ⟨ga, ca⟩ := so.at_ n a u hm hu
  by_cases z : i = n
  · subst z
    rw [List.getElem?_set_self hn] at e2
    cases e2
    rw [hm] at e1
    cases e1
    exact ⟨ga, hc⟩
  · rw [List.getElem?_set_ne (Ne.symm z)] at e2
    obtain ⟨gb, cb⟩ := so.at_ i b v e1 e2
    have nb : b ≠ a := fun y => by
      subst y
      exact z ((List.getElem?_inj (List.getElem?_eq_some_iff.mp e1).1 so.nd).mp (e1.trans hm.symm))
    obtain ⟨o, ho, _, _, ow⟩ := ca.here
    refine ⟨gb, cb.keep (Le.refl G) (fun _ _ g _ => g) fun d w e y => ?_⟩
    rcases y with y | ⟨x, y⟩
    · rw [y, upd_ne nb]; rw [y] at e; exact e
    · rw [upd_ne (fun y2 => ?_)]
      · exact e
      · rw [y2, ho, y] at e; cases e; exact ow x rfl
def wgrow (G : Wd) (a : Addr) : Wd := ⟨G.hp, G.m ++ [a]⟩
theorem Le.wgrow (G : Wd) (a : Addr) : Le G (wgrow G a) := ⟨fun _ _ h => h, List.prefix_append _ _⟩
theorem wgrow_at {a : Addr} : (wgrow G a).m[G.m.length]? = some a := by unfold wgrow; simp
theorem sto_push (so : StoOk K T G H μ) {a : Addr} {u : Cell} (ha : H a = none) (ga : G a = none) (up : ∀ b o, H b = some o → H' b = some o) (hc : CellAt K T (wgrow G a) H' a u) : StoOk K T (wgrow G a) H' (μ ++ [u]) := by
  have na : a ∉ G.m := fun m => by
    obtain ⟨_, o, q, _⟩ := so.there m
    rw [ha] at q; cases q
  refine ⟨by unfold wgrow; simp [so.len], ?_, fun i b v e1 e2 => ?_⟩
  · unfold wgrow
    rw [List.nodup_append]
    exact ⟨so.nd, by simp, fun x hx y hy => by simp at hy; subst hy; exact fun z => na (z ▸ hx)⟩
  · unfold wgrow at e1
    by_cases z : i < G.m.length
    · rw [List.getElem?_append_left z] at e1
      rw [List.getElem?_append_left (by rw [← so.len]; exact z)] at e2
      obtain ⟨gb, cb⟩ := so.at_ i b v e1 e2
      exact ⟨gb, cb.keep (Le.wgrow G a) (fun _ _ g _ => g) fun d w e _ => up d w e⟩
    · rw [List.getElem?_append_right (by omega)] at e1
      rw [List.getElem?_append_right (by rw [← so.len]; omega), ← so.len] at e2
      generalize i - G.m.length = r at e1 e2
      match r, e1, e2 with
      | 0, e1, e2 => simp at e1 e2; subst e1; subst e2; exact ⟨ga, hc⟩
      | r + 1, e1, e2 => simp at e1
/-- a cell is changed -/
theorem J.upCell (j : J K T c G H σ ρ) (h : stoOf ρ = some (true, μ)) {n : Nat} {a : Addr} {u u' : Cell} {o' : HO} (hm : G.m[n]? = some a) (hu : μ[n]? = some u) (hc : CellAt K T G (upd H a o') a u') : J K T c G (upd H a o') σ (setSto ρ (μ.set n u')) := by
  have so := j.stoOk h
  obtain ⟨ga, ca⟩ := so.at_ n a u hm hu
  obtain ⟨o, ho, ot, oc, ow⟩ := ca.here
  refine j.afterS h ⟨Le.refl G, fun b v e => ?_, fun b g _ _ => g, fun b v e nm _ => ?_, fun b ps e => ⟨ps, ?_⟩, fun p hp => ?_, j.nt, fun b m => .inl m⟩ (sto_set so hm hu hc)
  · rw [upd_ne (ne_of_none e ga)]; exact j.sub b v e
  · rw [upd_ne (show b ≠ a from fun z => nm (z ▸ List.mem_of_getElem? hm))]; exact e
  · rw [upd_ne (fun z => by rw [z, ho] at e; cases e; exact ot ps rfl)]; exact e
  · obtain ⟨ps, h1, h2, h3⟩ := j.tb p hp
    refine ⟨ps, by rw [upd_ne (fun z => by rw [z, ho] at h1; cases h1; exact ot ps rfl)]; exact h1, h2, fun pos cv hcv => ?_⟩
    obtain ⟨x, e1, e2⟩ := h3 pos cv hcv
    exact ⟨x, e1, by rw [upd_ne (fun z => by rw [z, ho] at e2; exact oc _ _ (Option.some.inj e2))]; exact e2⟩
/-- a new cell -/
theorem J.newCell (j : J K T c G H σ ρ) (h : stoOf ρ = some (true, μ)) {a : Addr} {u : Cell} (ha : H a = none) (up : ∀ b o, H b = some o → H' b = some o) (hc : CellAt K T (wgrow G a) H' a u) : J K T c (wgrow G a) H' σ (setSto ρ (μ ++ [u])) := by
  have so := j.stoOk h
  refine j.afterS h ⟨Le.wgrow G a, fun b v e => up b v (j.sub b v e), fun b g _ _ => g, fun b v e _ _ => up b v e, fun b ps e => ⟨ps, up _ _ e⟩, j.tb.ext up, j.nt, fun b m => ?_⟩ (sto_push so ha (j.fresh ha) up hc)
  unfold wgrow at m
  rcases List.mem_append.mp m with m | m
  · exact .inl m
  · simp at m; subst m; exact .inr ha
end
/-! ### a def over the store -/
inductive SRes where
  | ok (d : D) (μ : Sto)
  | exn (e : Exn) (μ : Sto)
  | stuck
def spS (K : Fg) (T : Tb) (f : Sto → List D → SRes) : Sp := fun vs H Q E => ∃ G μ ds, Lh G H ∧ (∀ a ps, G a ≠ some (.tbl ps)) ∧ LamX.Tabs T H ∧ StoOk K T G H μ ∧ DqAll K G vs ds ∧ match f μ ds with
  | .ok d μ' => ∀ v G' H', KeptS T G H G' H' → StoOk K T G' H' μ' → Dq K G' v d → Q v H'
  | .exn e μ' => ∀ cls dx G' H', KeptS T G H G' H' → StoOk K T G' H' μ' → IsX K H' e cls dx → E cls dx H'
  | .stuck => False
def startS (n : Nat) (ds : List D) (μ : Sto) : MSt := ds.map (fun d => some (S.d d)) ++ (List.replicate (n - ds.length) none ++ [some (.sto true μ)])
def endS : Out Fl → SRes
  | .ok (.rt d) ρ => match stoOf ρ with
    | some (true, μ) => .ok d μ
    | _ => .stuck
  | .ok .nx ρ => match stoOf ρ with
    | some (true, μ) => .ok .none μ
    | _ => .stuck
  | .exn e ρ => match stoOf ρ with
    | some (true, μ) => .exn e μ
    | _ => .stuck
  | _ => .stuck
def runS (n m : Nat) (b : MM Fl) : Sto → List D → SRes := fun μ ds => if ds.length = m then endS (b (startS n ds μ)) else .stuck
theorem startS_get {n : Nat} {ds : List D} {μ : Sto} {i : Nat} {s : S} (hn : ds.length ≤ n) (e : (startS n ds μ)[i]? = some (some s)) : (∃ d, ds[i]? = some d ∧ s = .d d) ∨ (i = n ∧ s = .sto true μ) := by
  unfold startS at e
  by_cases hi : i < ds.length
  · rw [List.getElem?_append_left (by simpa using hi), List.getElem?_map] at e
    cases q : ds[i]? with
    | none => rw [q] at e; cases e
    | some d => rw [q] at e; cases e; exact .inl ⟨d, rfl, rfl⟩
  · rw [List.getElem?_append_right (by simpa using hi), List.length_map] at e
    by_cases hk : i - ds.length < n - ds.length
    · rw [List.getElem?_append_left (by simpa using hk), List.getElem?_replicate] at e
      split at e <;> cases e
    · rw [List.getElem?_append_right (by simpa using hk), List.length_replicate] at e
      have : ∃ r, r = i - ds.length - (n - ds.length) := ⟨_, rfl⟩
      obtain ⟨r, hr⟩ := this
      rw [← hr] at e
      match r, hr, e with
      | 0, hr, e => simp at e; exact .inr ⟨by omega, e.symm⟩
      | r + 1, _, e => simp at e
theorem startS_len {n : Nat} {ds : List D} {μ : Sto} (hn : ds.length ≤ n) : (startS n ds μ).length = n + 1 := by
  unfold startS
  simp only [List.length_append, List.length_map, List.length_replicate, List.length_cons, List.length_nil]
  omega
theorem J.entryS {K : Fg} {T : Tb} {G : Wd} {H : Hp} {vs : List V} {ds : List D} {N : List Str} {μ : Sto} (l : Lh G H) (nt : ∀ a ps, G a ≠ some (.tbl ps)) (tb : LamX.Tabs T H) (so : StoOk K T G H μ) (dq : DqAll K G vs ds) (hn : vs.length ≤ N.length) : J K T ⟨H, G, G.m, 0, true⟩ G H (L2.start N vs) (startS N.length ds μ) := by
  have hl := dq.length
  have hN : (L2.start N vs).length = N.length := by unfold L2.start; simp; omega
  have get : ∀ (i : Nat) s, (startS N.length ds μ)[i]? = some (some s) → s.isSto = false → ∃ d v, s = .d d ∧ (L2.start N vs)[i]? = some (some v) ∧ Dq K G v d := fun i s e ns => by
    rcases startS_get (by omega) e with ⟨d, q, rfl⟩ | ⟨_, rfl⟩
    · obtain ⟨v, h1, h2⟩ := dq.getD q
      refine ⟨d, v, rfl, ?_, h2⟩
      unfold L2.start
      rw [List.getElem?_append_left (by simpa using (List.getElem?_eq_some_iff.mp h1).1), List.getElem?_map, h1]
      rfl
    · cases ns
  refine ⟨l, Le.refl G, fun _ h _ _ => h, fun _ _ e _ _ => e, fun _ ps e => ⟨ps, e⟩, by rw [startS_len (by omega), hN], fun i s e ns => ?_, fun i s a e o e2 => ?_, fun i k s t a b e1 e2 o1 o2 f1 f2 n => ?_, tb, nt, fun b ν e => ?_, ⟨fun a m => (so.there m).2.imp fun o z => z.1, fun a m n => ?_, fun a m => .inl m, fun z => by cases z⟩⟩
  · obtain ⟨d, v, rfl, h1, h2⟩ := get i s e ns
    exact ⟨v, h1, h2⟩
  · obtain ⟨d, v, rfl, h1, h2⟩ := get i s e (S.own_sto o)
    cases o
  · obtain ⟨d, v, rfl, h1, h2⟩ := get i s e1 (S.own_sto o1)
    cases o1
  · rcases startS_get (by omega) e with ⟨d, q, z⟩ | ⟨_, z⟩
    · cases z
    · cases z; exact ⟨so, fun _ => ⟨rfl, fun a m => .inr m⟩⟩
  · obtain ⟨i, s, e1, e2, e3⟩ := mem_owns.mp n
    obtain ⟨d, v, rfl, h1, h2⟩ := get i s e1 (S.own_sto e2)
    cases e2
theorem J.keptS {K : Fg} {T : Tb} {G G' : Wd} {H H' : Hp} {σ : St} {ρ : MSt} (j : J K T ⟨H, G, G.m, 0, true⟩ G' H' σ ρ) : KeptS T G H G' H' :=
  ⟨j.g0, j.sub, fun a g h m => j.gn a g h m, fun a o e m t => j.fr a o e m t, j.ft, j.tb, j.nt, fun a m => (j.mj.gr a m).elim .inl fun z => z.elim .inr .inl⟩
section
variable {P : Program} {w : World} {K : Fg} {mg : Str → Option Value} {base : Heap} {T : Tb}
theorem fn_defS {x qual : Str} {st : Stmt} {f : Addr} {fd : FuncData} {N ps : List Str} {k : Nat} {b : MM Fl} (F : Fun K x qual st f fd) (S : FnScope N ps (defScope st))
    (hb : ∀ (cdv : Value), cdv = fd.code → ∀ (A : Around) (outer : List Env) (s : Shared) (H : Hp) (E : XK) (c : Gh), Room k (A.deeper (PyProof.Rows.envOfC qual (defScope st) s.heap.objs.size f cdv)) →
      PSs (cxX P w K mg base N qual (defScope st) f cdv A outer s H E) (defBody st) (mS K T c (fun cls d _ H => E cls d H) b)) :
    FnOk P w K mg base (L2N.CX P w) (k + 1) f fd ps (spS K T (runS N.length ps.length b)) := by
  have hpl : ps.length ≤ N.length := by have := congrArg List.length S.pre; rw [List.length_take] at this; omega
  refine okN F S (fun vs H Q E h => ?_) fun cdv hcd A outer s H vs Q E hr h => ?_
  · obtain ⟨G, μ, ds, _, _, _, _, dq, p⟩ := h
    unfold runS at p
    by_cases z : ds.length = ps.length
    · rw [dq.length, z]
    · rw [if_neg z] at p; exact p.elim
  · obtain ⟨G, μ, ds, l, nt, tb, so, dq, p⟩ := h
    refine ⟨_, hb cdv hcd A outer s H E ⟨H, G, G.m, 0, true⟩ hr, ?_⟩
    unfold runS at p
    by_cases z : ds.length = ps.length
    · rw [if_pos z] at p
      refine ⟨G, startS N.length ds μ, J.entryS l nt tb so dq (by rw [dq.length, z]; exact hpl), ?_⟩
      cases e : b (startS N.length ds μ) with
      | ok fl ρ' =>
        rw [e] at p
        cases fl with
        | nx =>
          intro σ' G' H' l' j'
          unfold endS at p
          cases q : stoOf ρ' with
          | none => simp only [q] at p
          | some bm =>
            obtain ⟨b', μ'⟩ := bm
            simp only [q] at p
            cases b' with
            | false => exact p.elim
            | true => exact p .non G' H' j'.keptS (j'.stoOk q) .non
        | rt d =>
          intro v σ' G' H' l' j' dv
          unfold endS at p
          cases q : stoOf ρ' with
          | none => simp only [q] at p
          | some bm =>
            obtain ⟨b', μ'⟩ := bm
            simp only [q] at p
            cases b' with
            | false => exact p.elim
            | true => exact p v G' H' j'.keptS (j'.stoOk q) dv
        | bk => exact p.elim
        | ct => exact p.elim
      | exn y ρ' =>
        rw [e] at p
        intro cls dx σ' G' H' l' j' i
        unfold endS at p
        cases q : stoOf ρ' with
        | none => simp only [q] at p
        | some bm =>
          obtain ⟨b', μ'⟩ := bm
          simp only [q] at p
          cases b' with
          | false => exact p.elim
          | true => exact p cls dx G' H' j'.keptS (j'.stoOk q) i
      | stuck => rw [e] at p; exact p.elim
    · rw [if_neg z] at p; exact p.elim
end
end Mi
set_option Elab.async false
set_option linter.all false
set_option maxRecDepth 100000
set_option maxHeartbeats 4000000
namespace Mi
open PySem L2
/-! ### rules of the store: fields, methods, new objects -/
theorem DqF.get {K : Fg} {G : Wd} {x : Str} : ∀ {vs : List (Str × V)} {ds : List (Str × D)}, DqF K G vs ds → (vs.lookup x = none ∧ ds.lookup x = none) ∨ ∃ v d, vs.lookup x = some v ∧ ds.lookup x = some d ∧ Dq K G v d
  | _, _, .nil => .inl ⟨rfl, rfl⟩
  | _, _, .cons (x := y) (v := v) (d := d) h t => by
    rw [List.lookup_cons, List.lookup_cons]
    cases e : x == y with
    | true => exact .inr ⟨v, d, rfl, rfl, h⟩
    | false => exact DqF.get t
theorem DqF.length {K : Fg} {G : Wd} : ∀ {vs : List (Str × V)} {ds : List (Str × D)}, DqF K G vs ds → vs.length = ds.length
  | _, _, .nil => rfl
  | _, _, .cons _ t => by simp [DqF.length t]
def putFD (f : Str) (v : D) : List (Str × D) → List (Str × D)
  | [] => [(f, v)]
  | (g, x) :: r => if g = f then (g, v) :: r else (g, x) :: putFD f v r
theorem DqF.put {K : Fg} {G : Wd} {x : Str} {v : V} {d : D} (r : Dq K G v d) : ∀ {vs : List (Str × V)} {ds : List (Str × D)}, DqF K G vs ds → DqF K G (putF x v vs) (putFD x d ds)
  | _, _, .nil => .cons r .nil
  | _, _, .cons (x := y) h t => by
    unfold putF putFD
    split
    · exact .cons r t
    · exact .cons h (DqF.put r t)
theorem DqAll.lenm {K : Fg} {G : Wd} {n : Nat} {a : Addr} {d : D} (h : Dq K G (.ref a) (.loc n)) : G.m[n]? = some a := by cases h with | loc h => exact h
/-- the cell at a place -/
def cellAt (ρ : MSt) (d : D) : Option (Nat × Cell) := match d, stoOf ρ with
  | .loc n, some (_, μ) => (μ[n]?).map fun u => (n, u)
  | _, _ => none
theorem J.cell {K : Fg} {T : Tb} {c : Gh} {G : Wd} {H : Hp} {σ : St} {ρ : MSt} {v : V} {d : D} {n : Nat} {u : Cell} (j : J K T c G H σ ρ) (r : Dq K G v d) (h : cellAt ρ d = some (n, u)) : ∃ a b μ, d = .loc n ∧ v = .ref a ∧ G.m[n]? = some a ∧ stoOf ρ = some (b, μ) ∧ μ[n]? = some u ∧ G a = none ∧ CellAt K T G H a u := by
  unfold cellAt at h
  split at h
  · rename_i k b μ hs
    cases e : μ[k]? with
    | none => rw [e] at h; cases h
    | some w =>
      rw [e] at h
      cases h
      cases r with
      | loc hm =>
        obtain ⟨g, ct⟩ := (j.stoOk hs).at_ _ _ _ hm e
        exact ⟨_, b, μ, rfl, rfl, hm, hs, e, g, ct⟩
  · cases h
section
variable {X : Cx} {T : Tb} {c : Gh} {W : WX} {a b e o value : Expr} {es : List Expr} {f f1 f2 fo fv : MM D} {g : MM (List D)} {pos pos' p apos : Pos}
/-- o.x, o of the class C -/
def attrK (C x : Str) (d : D) : MM D := fun ρ => match cellAt ρ d with
  | some (_, .obj C' fs) => if C' = C then (match fs.lookup x with
    | some v => .ok v ρ
    | none => .stuck) else .stuck
  | _ => .stuck
def attrE (C x : Str) (f : MM D) : MM D := MM.bind f (attrK C x)
theorem me_attr {C x : Str} (cl : Cls X.K (He.ga X.K C)) (nF : NoAttr X.K (He.ga X.K C) x) (he : PE X e (mE X.K T c W f)) (hb : attributeBase e x X.env (eval e X.env) = eval e X.env := by rfl) : PE X (.Attribute e x pos) (mE X.K T c W (attrE C x f)) := by
  refine pe_mono (pe_fld he hb) fun σ H Q ⟨G, ρ, j, p⟩ => ?_
  refine pX_bind j p fun d v ρ1 G1 H1 l1 j1 r1 p1 => ?_
  unfold attrK at p1
  split at p1
  · rename_i n C' fs hc
    obtain ⟨a, b, μ, rfl, rfl, hm, hs, hu, ga, ct⟩ := j1.cell r1 hc
    by_cases z : C' = C
    · subst z
      rw [if_pos rfl] at p1
      cases ct with
      | obj h1 h2 h3 h4 =>
        rcases h4.get (x := x) with ⟨_, e2⟩ | ⟨v, d, e1, e2, e3⟩
        · rw [e2] at p1; exact p1.elim
        · rw [e2] at p1
          exact ⟨a, _, _, _, v, rfl, h1, cl, nF, e1, p1.here j1 e3⟩
    · rw [if_neg z] at p1; exact p1.elim
  · exact p1.elim
/-- o.x = value -/
def fldK (C x : Str) (v d : D) : MM Fl := fun ρ => match stoOf ρ, cellAt ρ d with
  | some (true, μ), some (n, .obj C' fs) => if C' = C ∧ fs.length < 1000 then .ok .nx (setSto ρ (μ.set n (.obj C (putFD x v fs)))) else .stuck
  | _, _ => .stuck
def fldS (C x : Str) (fv fo : MM D) : MM Fl := MM.bind fv fun v => MM.bind fo (fldK C x v)
theorem ms_fld {C x : Str} (cl : Cls X.K (He.ga X.K C)) (nF : NoAttr X.K (He.ga X.K C) x) (ho : PE X o (mE X.K T c W fo)) (hv : PE X value (mE X.K T c W fv)) (hs : swapsWith value (some (.Attribute o x pos')) pos.line X.env = pure false := by rfl) : PS X (.Assign [.Attribute o x pos'] value pos) (mS X.K T c W (fldS C x fv fo)) := by
  refine ps_mono (ps_fld ho hv hs) fun Dn σ H ⟨G, ρ, j, p⟩ => ?_
  refine pS_bind j p fun d v ρ1 G1 H1 l1 j1 r1 p1 => ?_
  refine pS_bind j1 p1 fun d2 v2 ρ2 G2 H2 l2 j2 r2 p2 => ?_
  unfold fldK at p2
  split at p2
  · rename_i μ0 n C' fs hs0 hc
    obtain ⟨a, b, μ, rfl, rfl, hm, hs, hu, ga, ct⟩ := j2.cell r2 hc
    rw [hs] at hs0
    cases hs0
    by_cases z : C' = C ∧ fs.length < 1000
    · obtain ⟨rfl, z2⟩ := z
      rw [if_pos ⟨rfl, z2⟩] at p2
      cases ct with
      | @obj _ dx vs _ h1 h2 h3 h4 =>
        refine ⟨a, _, dx, vs, rfl, h1, cl, nF, by rw [h4.length]; exact z2, p2 σ G2 _ (Le.refl G2) (j2.upCell hs hm hu (.obj upd_same ?_ h3 (h4.put (r1.le l2))))⟩
        rw [upd_ne (fun y => by rw [y, h1] at h2; cases h2)]; exact h2
    · rw [if_neg z] at p2; exact p2.elim
  · exact p2.elim
/-! calls of defs over the store -/
def callSK (fm : Sto → List D → SRes) (ds : List D) : MM D := fun ρ => match stoOf ρ with
  | some (true, μ) => match fm μ ds with
    | .ok d μ' => .ok d (setSto ρ μ')
    | .exn e μ' => .exn e (setSto ρ μ')
    | .stuck => .stuck
  | _ => .stuck
def callSE (fm : Sto → List D → SRes) (g : MM (List D)) : MM D := MM.bind g (callSK fm)
theorem spS_of {fm : Sto → List D → SRes} {σ : St} {G : Wd} {H : Hp} {ρ : MSt} {ds : List D} {vs : List V} {Q : VK} (j : J X.K T c G H σ ρ) (r : DqAll X.K G vs ds) (p : pX X.K T c W (relD X.K) σ G Q (callSK fm ds ρ)) : spS X.K T fm vs H Q (WE W σ) := by
  unfold callSK at p
  split at p
  · rename_i μ hs
    refine ⟨G, μ, ds, j.sub, j.nt, j.tb, j.stoOk hs, r, ?_⟩
    cases z : fm μ ds with
    | ok d μ' => rw [z] at p; exact fun v G' H' q so dv => p v G' H' q.g (j.afterS hs q so) dv
    | exn y μ' => rw [z] at p; exact fun cls dx G' H' q so i => p cls dx G' H' q.g (j.afterS hs q so) i
    | stuck => rw [z] at p; exact p.elim
  · exact p.elim
theorem me_callSt {x : Str} {k : Nat} {fa : Addr} {fd : FuncData} {ps : List Str} {fm : Sto → List D → SRes} (F : FnOk X.prog X.w X.K X.mg X.base (L2N.CX X.prog X.w) k fa fd ps (spS X.K T fm)) (hr : Room k X.A) (hg : Gl X x) (hm : X.mg x = some (.ref fa)) (hk : PySem.W.keepIn X.K (.ref fa) = true)
    (hb : Binds X.K fd ps []) (tk : L2N.Takes X W) (ha : PA X (e :: es) (mA X.K T c W g)) (hdb : (x == ("__debug__" : Str)) = false := by decide) (he : starEach (e :: es) X.env = (false, eval e X.env) :: starEach es X.env := by rfl) (hpl : (backTo pos (starEach es X.env)).any (·.1) = false := by rfl) :
    PE X (.Call (.Name x p) (e :: es) [] pos) (mE X.K T c W (callSE fm g)) :=
  pe_mono (pe_callS F hr hg hm hk hb (fun σ => L2N.passAt tk σ) ha hdb he hpl) fun σ H Q ⟨G, ρ, j, p⟩ => pX_bind j p fun ds vs ρ1 G1 H1 l1 j1 r1 p1 => spS_of j1 r1 p1
theorem pe_call0S {x : Str} {k : Nat} {fa : Addr} {fd : FuncData} {ps : List Str} {sp : Sp} {CX : CXT} {E : St → XK} (F : FnOk X.prog X.w X.K X.mg X.base CX k fa fd ps sp) (hr : Room k X.A) (hg : Gl X x) (hm : X.mg x = some (.ref fa)) (hk : PySem.W.keepIn X.K (.ref fa) = true)
    (hb : Binds X.K fd ps []) (hx : ∀ σ, PassesAt CX X σ (E σ)) (hdb : (x == ("__debug__" : Str)) = false := by decide) : PE X (.Call (.Name x p) [] [] pos) (tCallS sp E tNil) := by
  refine ⟨fun pins s σ H Q I h => ?_⟩
  refine wpAny_Call_Name_kw (ld_glob I hg hm ?_ hdb)
  exact PySem.W.callWith_K0 I.kIn hk (run_fnS (us := []) F hr hb (hx σ) I .nil h)
theorem me_callSt0 {x : Str} {k : Nat} {fa : Addr} {fd : FuncData} {ps : List Str} {fm : Sto → List D → SRes} (F : FnOk X.prog X.w X.K X.mg X.base (L2N.CX X.prog X.w) k fa fd ps (spS X.K T fm)) (hr : Room k X.A) (hg : Gl X x) (hm : X.mg x = some (.ref fa)) (hk : PySem.W.keepIn X.K (.ref fa) = true)
    (hb : Binds X.K fd ps []) (tk : L2N.Takes X W) (hdb : (x == ("__debug__" : Str)) = false := by decide) : PE X (.Call (.Name x p) [] [] pos) (mE X.K T c W (callSE fm (MM.pure []))) :=
  pe_mono (pe_call0S F hr hg hm hk hb (fun σ => L2N.passAt tk σ) hdb) fun σ H Q ⟨G, ρ, j, p⟩ => spS_of (ds := []) j .nil p
/-- o.m(e, ..), exceptions let by -/
def tMethE (C : Addr) (m : Str) (sp : Sp) (E : St → XK) (ta : TE) (t : TA) : TE := fun σ H Q => ta σ H fun x H1 => ∃ a dx fs, x = .ref a ∧ H1 a = some (.ins C dx fs) ∧ fs.lookup m = none ∧ t σ H1 fun vs H2 => sp (x :: vs) H2 Q (E σ)
theorem pe_methE {C fa : Addr} {m : Str} {k : Nat} {fd : FuncData} {ps : List Str} {sp : Sp} {CX : CXT} {E : St → XK} {ta : TE} {t : TA} {pl : Sem Bool} (he : PE X o ta) (cl : Cls X.K C) (hm : Meth X.K C m fa) (F : FnOk X.prog X.w X.K X.mg X.base CX k fa fd ps sp) (hr : Room k X.A) (hb : Binds X.K fd ps []) (hx : ∀ σ, PassesAt CX X σ (E σ)) (ha : PA X (e :: es) t)
    (hst : starEach (e :: es) X.env = (false, eval e X.env) :: starEach es X.env := by rfl) (hpl : (backTo pos (starEach es X.env)).any (·.1) = false := by rfl)
    (ht : eval (.Call (.Attribute o m apos) (e :: es) [] pos) X.env = (do
      let ov ← eval o X.env
      standAt apos.atName
      let (f, first) ← holding [ov] (getMethod ov m pl)
      callWith pos f first (backTo pos (starEach (e :: es) X.env)) (backToKw pos (keywordEach [] X.env))) := by rfl) :
    PE X (.Call (.Attribute o m apos) (e :: es) [] pos) (tMethE C m sp E ta t) := by
  refine ⟨fun pins s σ H Q I h => ?_⟩
  refine PySem.W.methodCall_KW (pl := pl) (thn (he.run pins s σ H _ I h) fun u s1 ⟨x, H1, I1, rx, a, dx, fs, ex, ea, l, q⟩ => ?_) ht
  subst ex
  obtain rfl : u = Value.ref a := rx
  refine getmeth_ok I1 ea cl hm l ?_
  refine PySem.W.callWith_K (first := [.ref a]) (h₀ := X.base) I.ok.mod.kin hm.kp (thn (ha.run pos pins s1 σ H1 _ I1 q) fun us s2 ⟨vs, H2, I2, r, q2⟩ => ⟨I2.kIn, ?_⟩) hst hpl
  exact run_fnS (us := .ref a :: us) (vs := .ref a :: vs) F hr hb (hx σ) I2 (.cons rfl r) q2
theorem pe_methE0 {C fa : Addr} {m : Str} {k : Nat} {fd : FuncData} {ps : List Str} {sp : Sp} {CX : CXT} {E : St → XK} {ta : TE} {pl : Sem Bool} (he : PE X o ta) (cl : Cls X.K C) (hm : Meth X.K C m fa) (F : FnOk X.prog X.w X.K X.mg X.base CX k fa fd ps sp) (hr : Room k X.A) (hb : Binds X.K fd ps []) (hx : ∀ σ, PassesAt CX X σ (E σ))
    (ht : eval (.Call (.Attribute o m apos) [] [] pos) X.env = (do
      let ov ← eval o X.env
      standAt apos.atName
      let (f, first) ← holding [ov] (getMethod ov m pl)
      callWith pos f first (backTo pos (starEach [] X.env)) (backToKw pos (keywordEach [] X.env))) := by rfl) :
    PE X (.Call (.Attribute o m apos) [] [] pos) (tMethE C m sp E ta tNil) := by
  refine ⟨fun pins s σ H Q I h => ?_⟩
  refine PySem.W.methodCall_KW (pl := pl) (thn (he.run pins s σ H _ I h) fun u s1 ⟨x, H1, I1, rx, a, dx, fs, ex, ea, l, q⟩ => ?_) ht
  subst ex
  obtain rfl : u = Value.ref a := rx
  refine getmeth_ok I1 ea cl hm l ?_
  exact PySem.W.callWith_K0 (first := [.ref a]) I1.kIn hm.kp (run_fnS (us := [.ref a]) (vs := [.ref a]) F hr hb (hx σ) I1 (.cons rfl .nil) q)
/-- is it an object of the class, without a field of the method's name -/
def isOb (ρ : MSt) (C m : Str) (d : D) : Bool := match cellAt ρ d with
  | some (_, .obj C' fs) => decide (C' = C) && (fs.lookup m).isNone
  | _ => false
def methE (C m : Str) (fm : Sto → List D → SRes) (fo : MM D) (g : MM (List D)) : MM D := MM.bind fo fun d ρ => if isOb ρ C m d = true then MM.bind g (fun ds => callSK fm (d :: ds)) ρ else .stuck
theorem meth_to {C m : Str} {fm : Sto → List D → SRes} (σ : St) (H : Hp) (Q : VK) (h : mE X.K T c W (methE C m fm fo g) σ H Q) : tMethE (He.ga X.K C) m (spS X.K T fm) (WE W) (mE X.K T c W fo) (mA X.K T c W g) σ H Q := by
  obtain ⟨G, ρ, j, p⟩ := h
  refine pX_bind j p fun d v ρ1 G1 H1 l1 j1 r1 p1 => ?_
  by_cases z : isOb ρ1 C m d = true
  · rw [if_pos z] at p1
    unfold isOb at z
    split at z
    · rename_i n C' fs hc
      obtain ⟨a, b, μ, rfl, rfl, hm, hs, hu, ga, ct⟩ := j1.cell r1 hc
      rw [Bool.and_eq_true, decide_eq_true_eq] at z
      obtain ⟨rfl, z2⟩ := z
      cases ct with
      | @obj _ dx vs _ h1 h2 h3 h4 =>
        refine ⟨a, dx, vs, rfl, h1, ?_, ?_⟩
        · rcases h4.get (x := m) with ⟨e1, _⟩ | ⟨v, d, e1, e2, _⟩
          · exact e1
          · rw [e2] at z2; cases z2
        · refine pX_bind j1 p1 fun ds vs2 ρ2 G2 H2 l2 j2 r2 p2 => ?_
          exact spS_of j2 (.cons (r1.le l2) r2) p2
    · cases z
  · rw [if_neg z] at p1; exact p1.elim
theorem me_meth {C m : Str} {fa : Addr} {k : Nat} {fd : FuncData} {ps : List Str} {fm : Sto → List D → SRes} {pl : Sem Bool} (ho : PE X o (mE X.K T c W fo)) (cl : Cls X.K (He.ga X.K C)) (hm : Meth X.K (He.ga X.K C) m fa) (F : FnOk X.prog X.w X.K X.mg X.base (L2N.CX X.prog X.w) k fa fd ps (spS X.K T fm)) (hr : Room k X.A) (hb : Binds X.K fd ps []) (tk : L2N.Takes X W) (ha : PA X (e :: es) (mA X.K T c W g))
    (hst : starEach (e :: es) X.env = (false, eval e X.env) :: starEach es X.env := by rfl) (hpl : (backTo pos (starEach es X.env)).any (·.1) = false := by rfl)
    (ht : eval (.Call (.Attribute o m apos) (e :: es) [] pos) X.env = (do
      let ov ← eval o X.env
      standAt apos.atName
      let (f, first) ← holding [ov] (getMethod ov m pl)
      callWith pos f first (backTo pos (starEach (e :: es) X.env)) (backToKw pos (keywordEach [] X.env))) := by rfl) :
    PE X (.Call (.Attribute o m apos) (e :: es) [] pos) (mE X.K T c W (methE C m fm fo g)) :=
  pe_mono (pe_methE ho cl hm F hr hb (fun σ => L2N.passAt tk σ) ha hst hpl ht) meth_to
theorem me_meth0 {C m : Str} {fa : Addr} {k : Nat} {fd : FuncData} {ps : List Str} {fm : Sto → List D → SRes} {pl : Sem Bool} (ho : PE X o (mE X.K T c W fo)) (cl : Cls X.K (He.ga X.K C)) (hm : Meth X.K (He.ga X.K C) m fa) (F : FnOk X.prog X.w X.K X.mg X.base (L2N.CX X.prog X.w) k fa fd ps (spS X.K T fm)) (hr : Room k X.A) (hb : Binds X.K fd ps []) (tk : L2N.Takes X W)
    (ht : eval (.Call (.Attribute o m apos) [] [] pos) X.env = (do
      let ov ← eval o X.env
      standAt apos.atName
      let (f, first) ← holding [ov] (getMethod ov m pl)
      callWith pos f first (backTo pos (starEach [] X.env)) (backToKw pos (keywordEach [] X.env))) := by rfl) :
    PE X (.Call (.Attribute o m apos) [] [] pos) (mE X.K T c W (methE C m fm fo (MM.pure []))) :=
  pe_mono (pe_methE0 ho cl hm F hr hb (fun σ => L2N.passAt tk σ) ht) fun σ H Q h => by
    obtain ⟨G, ρ, j, p⟩ := meth_to σ H Q h
    refine ⟨G, ρ, j, ?_⟩
    cases z : fo ρ with
    | ok d ρ' =>
      rw [z] at p
      intro v G' H' l j' r
      obtain ⟨a, dx, fs, e1, e2, e3, G2, ρ2, j2, q⟩ := p v G' H' l j' r
      exact ⟨a, dx, fs, e1, e2, e3, q.here j2 .nil⟩
    | exn y ρ' => rw [z] at p; exact p
    | stuck => rw [z] at p; exact p
/-- C(..) -/
def makeK (C : Str) (fm : Sto → List D → SRes) (ds : List D) : MM D := fun ρ => match stoOf ρ with
  | some (true, μ) => match fm (μ ++ [.obj C []]) (.loc μ.length :: ds) with
    | .ok .none μ' => .ok (.loc μ.length) (setSto ρ μ')
    | _ => .stuck
  | _ => .stuck
def makeE (C : Str) (fm : Sto → List D → SRes) (g : MM (List D)) : MM D := MM.bind g (makeK C fm)
theorem make_to {C : Str} {fm : Sto → List D → SRes} (σ : St) (H : Hp) (Q : VK) (h : mE X.K T c W (makeE C fm g) σ H Q) : tMake (He.ga X.K C) (spS X.K T fm) [] (fun _ _ _ => False) (mA X.K T c W g) σ H Q := by
  obtain ⟨G, ρ, j, p⟩ := h
  refine pX_bind j p fun ds vs ρ1 G1 H1 l1 j1 r1 p1 => ?_
  intro x dx hx hd hne
  unfold makeK at p1
  split at p1
  · rename_i μ hs
    have up : ∀ b o, H1 b = some o → upd (upd H1 dx (.own x)) x (.ins (He.ga X.K C) dx []) b = some o := fun b o e => by
      rw [upd_ne (ne_of_none e hx), upd_ne (ne_of_none e hd)]; exact e
    have so := j1.stoOk hs
    have jn := j1.newCell hs hx up (u := .obj C []) (.obj upd_same (by rw [upd_ne hne, upd_same]) (j1.fresh hd) .nil)
    have hs' : stoOf (setSto ρ1 (μ ++ [.obj C []])) = some (true, μ ++ [.obj C []]) := by
      unfold stoOf setSto
      have hl := j1.len
      rw [List.length_set, List.getElem?_set_self (by omega)]
    have hm : (wgrow G1 x).m[μ.length]? = some x := by rw [← so.len]; exact wgrow_at
    rw [List.append_nil]
    refine ⟨wgrow G1 x, μ ++ [.obj C []], .loc μ.length :: ds, jn.sub, jn.nt, jn.tb, jn.stoOk hs', .cons (.loc hm) (r1.le (Le.wgrow G1 x)), ?_⟩
    have p2 : pX X.K T c W (relD X.K) σ G1 Q (match fm (μ ++ [.obj C []]) (.loc μ.length :: ds) with | .ok .none μ' => .ok (.loc μ.length) (setSto ρ1 μ') | _ => .stuck) := p1
    cases z : fm (μ ++ [.obj C []]) (.loc μ.length :: ds) with
    | ok d μ' =>
      rw [z] at p2
      cases d with
      | none =>
        intro v G' H' q so' dv
        cases dv
        refine ⟨rfl, p2 _ G' H' ((Le.wgrow G1 x).trans q.g) ?_ (.loc (q.g.loc hm))⟩
        have ja := jn.afterS hs' q so'
        have es : setSto (setSto ρ1 (μ ++ [.obj C []])) μ' = setSto ρ1 μ' := by
          unfold setSto; rw [List.length_set, List.set_set]
        rw [es] at ja
        exact ja
      | _ => exact p2.elim
    | exn y μ' => rw [z] at p2; exact p2.elim
    | stuck => rw [z] at p2; exact p2.elim
  · exact p1.elim
theorem passNo : Passes (L2N.CX X.prog X.w) X (fun _ _ _ => False) := fun pins σ H s e s' I h => by
  obtain ⟨a, B, H1, cls, d, _, _, _, _, _, _, _, z⟩ := h
  exact z.elim
theorem me_make {C x : Str} {fa : Addr} {k : Nat} {fd : FuncData} {ps : List Str} {fm : Sto → List D → SRes} (M : Mk X.K (He.ga X.K C) fa) (F : FnOk X.prog X.w X.K X.mg X.base (L2N.CX X.prog X.w) k fa fd ps (spS X.K T fm)) (hr : Room (k + 1) X.A) (hg : Gl X x) (hm : X.mg x = some (.ref (He.ga X.K C))) (hb : Binds X.K fd ps [])
    (ha : PA X (e :: es) (mA X.K T c W g)) (hdb : (x == ("__debug__" : Str)) = false := by decide) (he : starEach (e :: es) X.env = (false, eval e X.env) :: starEach es X.env := by rfl) (hpl : (backTo pos (starEach es X.env)).any (·.1) = false := by rfl) :
    PE X (.Call (.Name x p) (e :: es) [] pos) (mE X.K T c W (makeE C fm g)) := pe_mono (pe_make M F hr hg hm hb .nil passNo ha hdb he hpl) make_to
theorem me_make0 {C x : Str} {fa : Addr} {k : Nat} {fd : FuncData} {ps : List Str} {fm : Sto → List D → SRes} (M : Mk X.K (He.ga X.K C) fa) (F : FnOk X.prog X.w X.K X.mg X.base (L2N.CX X.prog X.w) k fa fd ps (spS X.K T fm)) (hr : Room (k + 1) X.A) (hg : Gl X x) (hm : X.mg x = some (.ref (He.ga X.K C))) (hb : Binds X.K fd ps [])
    (hdb : (x == ("__debug__" : Str)) = false := by decide) : PE X (.Call (.Name x p) [] [] pos) (mE X.K T c W (makeE C fm (MM.pure []))) := pe_mono (pe_make0 M F hr hg hm hb .nil passNo hdb) fun σ H Q h => by
    obtain ⟨G, ρ, j, q⟩ := make_to σ H Q h
    exact q.here j .nil
end
end Mi
set_option Elab.async false
set_option linter.all false
set_option maxRecDepth 100000
set_option maxHeartbeats 4000000
namespace Mi
open PySem L2
/-! ### defs of data with a store of their own -/
mutual
def noLoc : D → Bool
  | .loc _ => false
  | .list xs => noLocs xs
  | .tuple xs => noLocs xs
  | .dict kvs => noLocKV kvs
  | _ => true
def noLocs : List D → Bool
  | [] => true
  | x :: xs => noLoc x && noLocs xs
def noLocKV : List (D × D) → Bool
  | [] => true
  | (_, v) :: xs => noLoc v && noLocKV xs
end
mutual
theorem Dq.bare {K : Fg} {G G' : Wd} (s : Sub G G') : ∀ {v : V} {d : D}, Dq K G v d → noLoc d = true → Dq K G' v d
  | _, _, .non, _ => .non
  | _, _, .bl b, _ => .bl b
  | _, _, .int i, _ => .int i
  | _, _, .str x, _ => .str x
  | _, _, .lst h t, n => .lst (s.rd _ _ (fun _ _ z => by cases z) h) (DqAll.bare s t n)
  | _, _, .tup h t, n => .tup (h.sub s) (DqAll.bare s t n)
  | _, _, .dic h t, n => .dic (h.sub s) (DqKV.bare s t n)
  | _, _, .loc h, n => by cases n
theorem DqAll.bare {K : Fg} {G G' : Wd} (s : Sub G G') : ∀ {vs : List V} {ds : List D}, DqAll K G vs ds → noLocs ds = true → DqAll K G' vs ds
  | _, _, .nil, _ => .nil
  | _, _, .cons h t, n => by
    obtain ⟨n1, n2⟩ := Bool.and_eq_true_iff.mp (show (noLoc _ && noLocs _) = true from n)
    exact .cons (Dq.bare s h n1) (DqAll.bare s t n2)
theorem DqKV.bare {K : Fg} {G G' : Wd} (s : Sub G G') : ∀ {kvs : List (Key × V)} {ds : List (D × D)}, DqKV K G kvs ds → noLocKV ds = true → DqKV K G' kvs ds
  | _, _, .nil, _ => .nil
  | _, _, .cons h t, n => by
    obtain ⟨n1, n2⟩ := Bool.and_eq_true_iff.mp (show (noLoc _ && noLocKV _) = true from n)
    exact .cons (Dq.bare s h n1) (DqKV.bare s t n2)
end
theorem sub_refl (G : Hp) : Sub G G := sub_of fun _ _ e => e
def endP : Out Fl → Res D
  | .ok (.rt d) _ => if noLoc d = true then .ok d else .stuck
  | .ok .nx _ => .ok .none
  | .exn e _ => .exn e
  | _ => .stuck
def runP (n m : Nat) (b : MM Fl) : List D → Res D := fun ds => if ds.length = m ∧ noLocs ds = true then endP (b (startS n ds [])) else .stuck
section
variable {P : Program} {w : World} {K : Fg} {mg : Str → Option Value} {base : Heap} {T : Tb}
theorem keptP {G G' : Wd} {H H' : Hp} (q : KeptS T ⟨G.hp, []⟩ H G' H') : Kept T G H ⟨G'.hp, G.m⟩ H' :=
  ⟨⟨q.g.h, List.prefix_refl _⟩, q.s, fun a g h => q.n a g h (by simp), fun a o e t => q.k a o e (by simp) t, q.t, q.tb, q.nt, rfl⟩
theorem fn_defP {x qual : Str} {st : Stmt} {f : Addr} {fd : FuncData} {N ps : List Str} {k : Nat} {b : MM Fl} (F : Fun K x qual st f fd) (S : FnScope N ps (defScope st))
    (hb : ∀ (cdv : Value), cdv = fd.code → ∀ (A : Around) (outer : List Env) (s : Shared) (H : Hp) (E : XK) (c : Gh), Room k (A.deeper (PyProof.Rows.envOfC qual (defScope st) s.heap.objs.size f cdv)) →
      PSs (cxX P w K mg base N qual (defScope st) f cdv A outer s H E) (defBody st) (mS K T c (fun cls d _ H => E cls d H) b)) :
    FnOk P w K mg base (L2N.CX P w) (k + 1) f fd ps (spF K T (runP N.length ps.length b)) := by
  have hpl : ps.length ≤ N.length := by have := congrArg List.length S.pre; rw [List.length_take] at this; omega
  refine okN F S (fun vs H Q E h => ?_) fun cdv hcd A outer s H vs Q E hr h => ?_
  · obtain ⟨G, ds, _, _, _, _, dq, p⟩ := h
    unfold runP at p
    by_cases z : ds.length = ps.length ∧ noLocs ds = true
    · rw [dq.length, z.1]
    · rw [if_neg z] at p; exact p.elim
  · obtain ⟨G, ds, l, nt, tb, hm, dq, p⟩ := h
    refine ⟨_, hb cdv hcd A outer s H E ⟨H, ⟨G.hp, []⟩, [], 0, true⟩ hr, ?_⟩
    unfold runP at p
    by_cases z : ds.length = ps.length ∧ noLocs ds = true
    · rw [if_pos z] at p
      have so : StoOk K T ⟨G.hp, []⟩ H [] := ⟨rfl, List.nodup_nil, fun n a u e => by cases e⟩
      refine ⟨⟨G.hp, []⟩, startS N.length ds [], J.entryS l nt tb so (DqAll.bare (G := G) (G' := ⟨G.hp, []⟩) (sub_refl _) dq z.2) (by rw [dq.length, z.1]; exact hpl), ?_⟩
      cases e : b (startS N.length ds []) with
      | ok fl ρ' =>
        rw [e] at p
        cases fl with
        | nx => exact fun σ' G' H' l' j' => p .non _ H' (keptP j'.keptS) .non
        | rt d =>
          intro v σ' G' H' l' j' dv
          have p2 : (match (if noLoc d = true then Res.ok d else .stuck) with | .ok d => ∀ v G' H', Kept T G H G' H' → Dq K G' v d → Q v H' | .exn e => ∀ cls dx G' H', Kept T G H G' H' → IsX K H' e cls dx → E cls dx H' | .stuck => False) := p
          by_cases y : noLoc d = true
          · rw [if_pos y] at p2
            exact p2 v _ H' (keptP j'.keptS) (Dq.bare (G := G') (G' := ⟨G'.hp, G.m⟩) (sub_refl _) dv y)
          · rw [if_neg y] at p2; exact p2.elim
        | bk => exact p.elim
        | ct => exact p.elim
      | exn y ρ' =>
        rw [e] at p
        exact fun cls dx σ' G' H' l' j' i => p cls dx _ H' (keptP j'.keptS) i
      | stuck => rw [e] at p; exact p.elim
    · rw [if_neg z] at p; exact p.elim
/-- a def whose fuel is out -/
theorem fn_out {f : Addr} {fd : FuncData} {ps : List Str} {k : Nat} : FnOk P w K mg base (L2N.CX P w) k f fd ps (spF K T fun _ => .stuck) :=
  ⟨fun vs H Q E ⟨_, _, _, _, _, _, _, z⟩ => z.elim, fun A outer s H args us vs Q E _ _ _ _ ⟨_, _, _, _, _, _, _, z⟩ => z.elim⟩
theorem fn_outS {f : Addr} {fd : FuncData} {ps : List Str} {k : Nat} : FnOk P w K mg base (L2N.CX P w) k f fd ps (spS K T fun _ _ => .stuck) :=
  ⟨fun vs H Q E ⟨_, _, _, _, _, _, _, _, z⟩ => z.elim, fun A outer s H args us vs Q E _ _ _ _ ⟨_, _, _, _, _, _, _, _, z⟩ => z.elim⟩
end
/-! ### keys that are tuples -/
mutual
def keyN : D → Option NestedKey
  | .none => some .none
  | .int i => some (.num i)
  | .str s => some (.text s)
  | .tuple xs => (keyNs xs).map .tup
  | _ => none
def keyNs : List D → Option (List NestedKey)
  | [] => some []
  | x :: xs => match keyN x, keyNs xs with
    | some k, some ks => some (k :: ks)
    | _, _ => none
end
def tkey (d : D) : Option NestedKey := match d with
  | .tuple xs => match keyN (.tuple xs) with
    | some k => if k.depth ≤ 8 then some k else none
    | none => none
  | _ => none
theorem tkey_ok {d : D} {k : NestedKey} (h : tkey d = some k) : keyN d = some k ∧ k.depth ≤ 8 ∧ ∃ xs, d = .tuple xs := by
  unfold tkey at h
  split at h
  · rename_i xs
    split at h
    · rename_i k' hk
      split at h
      · rename_i hd; cases h; exact ⟨hk, hd, xs, rfl⟩
      · cases h
    · cases h
  · cases h
theorem keyNs_cons {x : D} {xs : List D} {ks : List NestedKey} (h : keyNs (x :: xs) = some ks) : ∃ k l, keyN x = some k ∧ keyNs xs = some l ∧ ks = k :: l := by
  rw [keyNs] at h
  split at h
  · rename_i k l h1 h2; cases h; exact ⟨k, l, h1, h2, rfl⟩
  · cases h
theorem keyN_tup {xs : List D} {k : NestedKey} (h : keyN (.tuple xs) = some k) : ∃ ks, keyNs xs = some ks ∧ k = .tup ks := by
  rw [keyN] at h
  cases e : keyNs xs with
  | none => rw [e] at h; cases h
  | some ks => rw [e] at h; cases h; exact ⟨ks, rfl, rfl⟩
mutual
theorem keyN_py : ∀ (d : D) (k : NestedKey), keyN d = some k → d.py = k.data
  | .none, _, h => by cases h; rfl
  | .int i, _, h => by cases h; rfl
  | .str s, _, h => by cases h; rfl
  | .tuple xs, _, h => by
    obtain ⟨ks, h1, rfl⟩ := keyN_tup h
    show PyData.tuple (pys xs) = .tuple (NestedKey.datas ks)
    rw [keyNs_py xs ks h1]
  | .bool _, _, h => by cases h
  | .list _, _, h => by cases h
  | .dict _, _, h => by cases h
  | .loc _, _, h => by cases h
theorem keyNs_py : ∀ (xs : List D) (ks : List NestedKey), keyNs xs = some ks → pys xs = NestedKey.datas ks
  | [], _, h => by cases h; rfl
  | x :: xs, _, h => by
    obtain ⟨k, l, h1, h2, rfl⟩ := keyNs_cons h
    rw [pys, keyN_py x k h1, keyNs_py xs l h2]; rfl
end
mutual
theorem nk_eqv : ∀ a b : NestedKey, PyData.eqv a.data b.data = NestedKey.beq a b
  | .none, .none => rfl
  | .num a, .num b => by show PyData.eqv (.int a) (.int b) = _; rw [PyData.eqv, NestedKey.beq, Bool.beq_eq_decide_eq]
  | .text a, .text b => by show PyData.eqv (.str a) (.str b) = _; rw [PyData.eqv, NestedKey.beq, Bool.beq_eq_decide_eq]
  | .tup a, .tup b => by show PyData.eqv (.tuple _) (.tuple _) = _; rw [PyData.eqv, NestedKey.beq, nks_eqv]
  | .none, .num _ => rfl
  | .none, .text _ => rfl
  | .none, .tup _ => rfl
  | .num _, .none => rfl
  | .num _, .text _ => rfl
  | .num _, .tup _ => rfl
  | .text _, .none => rfl
  | .text _, .num _ => rfl
  | .text _, .tup _ => rfl
  | .tup _, .none => rfl
  | .tup _, .num _ => rfl
  | .tup _, .text _ => rfl
theorem nks_eqv : ∀ a b : List NestedKey, PyData.eqvAll (NestedKey.datas a) (NestedKey.datas b) = NestedKey.beqAll a b
  | [], [] => by rw [NestedKey.datas, PyData.eqvAll, NestedKey.beqAll]
  | [], b :: bs => by rw [NestedKey.datas, NestedKey.datas, PyData.eqvAll, NestedKey.beqAll]
  | a :: as, [] => by rw [NestedKey.datas, NestedKey.datas, PyData.eqvAll, NestedKey.beqAll]
  | a :: as, b :: bs => by rw [NestedKey.datas, NestedKey.datas, PyData.eqvAll, NestedKey.beqAll, nk_eqv, nks_eqv]
end
theorem keyN_eqv {d e : D} {a b : NestedKey} (h1 : keyN d = some a) (h2 : keyN e = some b) : D.eqv d e = decide (a = b) := by
  unfold D.eqv
  rw [keyN_py d a h1, keyN_py e b h2, nk_eqv, NestedKey.decide_eq]
section
variable {X : Cx} {pins : List (Addr × Obj)} {s : Shared} {σ : St} {G : Wd} {H : Hp}
mutual
theorem nested_of (I : Inv X pins σ H s) (l : Lh G H) : ∀ {v : V} {d : D} {k : NestedKey} {u : Value}, Dq X.K G v d → keyN d = some k → RelV v u → NestedIs s.heap k u
  | _, _, _, _, .non, h, r => by cases h; rw [show _ = Value.none from r]; exact .none
  | _, _, _, _, .int i, h, r => by
    cases h
    obtain ⟨t, rfl⟩ := (show ∃ t, _ = Value.int i t from r)
    exact .int i t
  | _, _, _, _, .str x, h, r => by
    cases h
    obtain ⟨t, rfl⟩ := (show ∃ t, _ = Value.str x t from r)
    exact .text x t
  | _, _, _, _, .tup (a := a) (xs := xs) h1 t, h, r => by
    obtain ⟨ks, h2, rfl⟩ := keyN_tup h
    rw [show _ = Value.ref a from r]
    obtain ⟨its, rv, ⟨o, e1, e2, n, e3⟩, _⟩ := I.tuple (sqT_sub h1.sq l.sub)
    exact .tup e1 e2 e3 (by simpa using nesteds_of I l t h2 rv)
  | _, _, _, _, .bl b, h, r => by cases h
  | _, _, _, _, .lst h1 t, h, r => by cases h
  | _, _, _, _, .dic h1 t, h, r => by cases h
  | _, _, _, _, .loc h1, h, r => by cases h
theorem nesteds_of (I : Inv X pins σ H s) (l : Lh G H) : ∀ {vs : List V} {ds : List D} {ks : List NestedKey} {us : List Value}, DqAll X.K G vs ds → keyNs ds = some ks → Vals vs us → NestedAll s.heap ks us
  | _, _, _, _, .nil, h, .nil => by cases h; exact .nil
  | _, _, _, _, .cons h1 t, h, .cons r rs => by
    obtain ⟨k, l', e1, e2, rfl⟩ := keyNs_cons h
    exact .cons (nested_of I l h1 e1 r) (nesteds_of I l t e2 rs)
end
end
end Mi
set_option Elab.async false
set_option linter.all false
set_option maxRecDepth 100000
set_option maxHeartbeats 4000000
namespace Mi
open PySem L2
/-! ### a dict whose keys are tuples -/
inductive TdE : List (V × V) → List (D × D) → List (NestedKey × Addr × Value) → Prop
  | nil : TdE [] [] []
  | cons {a : Addr} {v : V} {k d : D} {n : NestedKey} {u : Value} {es : List (V × V)} {kvs : List (D × D)} {xs : List (NestedKey × Addr × Value)} : tkey k = some n → RelV v u → TdE es kvs xs → TdE ((.ref a, v) :: es) ((k, d) :: kvs) ((n, a, u) :: xs)
def TdH (P : Program) (w : World) (a : Addr) (xs : List (NestedKey × Addr × Value)) : HO := .ext fun h => ∃ ob es ep, h.get? a = some ob ∧ ob.ExactDict ∧ ob.data = .dict es ep ∧ es.toList = xs.map (entryOfKey (nestedKind P w))
def tdO (P : Program) (w : World) : Addr → List (V × V) → List (D × D) → HO → Prop := fun a es kvs o => (a == sysModules) = false ∧ ∃ xs, TdE es kvs xs ∧ xs.length ≤ sizeLine ∧ (xs.map (·.1)).Nodup ∧ o = TdH P w a xs
theorem TdE.len : ∀ {es : List (V × V)} {kvs : List (D × D)} {xs : List (NestedKey × Addr × Value)}, TdE es kvs xs → xs.length = kvs.length
  | _, _, _, .nil => rfl
  | _, _, _, .cons _ _ t => by simp [t.len]
theorem TdE.at_ {n : NestedKey} {k0 : D} (h0 : tkey k0 = some n) {K : Fg} {G : Wd} : ∀ {es : List (V × V)} {kvs : List (D × D)} {xs : List (NestedKey × Addr × Value)}, TdE es kvs xs → DqKT K G es kvs →
    (atKey xs n = none ∧ valAt kvs k0 = none) ∨ ∃ b u v d, atKey xs n = some (b, u) ∧ valAt kvs k0 = some d ∧ RelV v u ∧ Dq K G v d
  | _, _, _, .nil, _ => .inl ⟨rfl, rfl⟩
  | _, _, _, .cons (a := a) (v := v) (k := k) (d := d) (n := n') (u := u) h r t, .cons q1 q2 q3 => by
    have eq : D.eqv k k0 = decide (n' = n) := keyN_eqv (tkey_ok h).1 (tkey_ok h0).1
    by_cases z : n' = n
    · refine .inr ⟨a, u, v, d, ?_, ?_, r, q2⟩
      · unfold atKey; rw [List.find?_cons]; simp [z]
      · unfold valAt; rw [List.find?_cons, eq]; simp [z]
    · have e1 : ∀ l : List (NestedKey × Addr × Value), atKey ((n', a, u) :: l) n = atKey l n := fun l => by
        unfold atKey; rw [List.find?_cons]; simp [z]
      have e2 : ∀ l : List (D × D), valAt ((k, d) :: l) k0 = valAt l k0 := fun l => by
        unfold valAt; rw [List.find?_cons, eq]; simp [z]
      rw [e1, e2]
      exact t.at_ h0 q3
section
variable {X : Cx} {pins : List (Addr × Obj)} {s : Shared} {σ : St} {G : Wd} {H : Hp}
theorem TdE.is (I : Inv X pins σ H s) (l : Lh G H) : ∀ {es : List (V × V)} {kvs : List (D × D)} {xs : List (NestedKey × Addr × Value)}, TdE es kvs xs → DqKT X.K G es kvs → ∀ x ∈ xs, (nestedKind X.prog X.w).is s.heap x.1 x.2.1
  | _, _, _, .nil, _, x, h => by cases h
  | _, _, _, .cons h r t, .cons q1 q2 q3, x, hx => by
    rcases List.mem_cons.mp hx with e | e
    · subst e
      obtain ⟨k1, k2, _⟩ := tkey_ok h
      exact ⟨nested_of I l q1 k1 rfl, k2⟩
    · exact TdE.is I l t q3 x e
theorem td_dict (I : Inv X pins σ H s) (l : Lh G H) {a : Addr} {es : List (V × V)} {kvs : List (D × D)} {xs : List (NestedKey × Addr × Value)} (e : H a = some (TdH X.prog X.w a xs)) (t : TdE es kvs xs) (q : DqKT X.K G es kvs) (nd : (xs.map (·.1)).Nodup) : s.heap.DictOfH (nestedKind X.prog X.w) a xs := by
  obtain ⟨⟨ob, ents, ep, h1, h2, h3, h4⟩, _⟩ := I.hok a _ e
  exact ⟨ob, ents, ep, h1, h2, h3, h4, t.is I l q, nd⟩
theorem td_ne {P : Program} {w : World} {h : Heap} {a : Addr} {xs : List (NestedKey × Addr × Value)} {ob : Obj} {es : Array DictEntry} {ep : Nat} (h1 : h.get? a = some ob) (h2 : ob.ExactDict) (h3 : ob.data = .dict es ep) (h4 : es.toList = xs.map (entryOfKey (nestedKind P w))) : ∀ x q, TdH P w a xs ≠ LamX.CodeO x q := fun x q z => by
  unfold TdH LamX.CodeO at z
  injection z with z
  obtain ⟨R, r1, r2⟩ := restrict h fun b => decide (b = a)
  have ha : R.get? a = some ob := (r1 a (by simp)).trans h1
  have hp := (congrFun z R).mp ⟨ob, es, ep, ha, h2, h3, h4⟩
  obtain ⟨oc, vs, t, g1, g2, _⟩ := hp
  by_cases y : x = a
  · subst y
    rw [ha] at g1
    cases g1
    rw [h3] at g2
    cases g2
  · rw [r2 x (by simpa using y)] at g1
    cases g1
end
/-- what a reading of such a dict asks -/
def TdR (X : Cx) (H : Hp) (a b : Addr) (kvs : List (D × D)) (k : D) (o : Option (V × D)) : Prop := ∃ (G : Wd) (es : List (V × V)) (h : HO) (n : NestedKey), Lh G H ∧ H a = some h ∧ tdO X.prog X.w a es kvs h ∧ DqKT X.K G es kvs ∧ Dq X.K G (.ref b) k ∧ tkey k = some n ∧ match o with
  | none => valAt kvs k = none
  | some (v, d) => valAt kvs k = some d ∧ ∀ xs, TdE es kvs xs → ∃ c u, atKey xs n = some (c, u) ∧ RelV v u
section
variable {X : Cx} {T : Tb} {c : Gh} {W : WX} {a b e o value : Expr} {es : List Expr} {f f1 f2 fo fv fk : MM D} {g : MM (List D)} {pos pos' p apos : Pos}
def rTIn (X : Cx) (neg : Bool) : R2 := fun x y H Q => ∃ (a b : Addr) (G : Wd) (es : List (V × V)) (kvs : List (D × D)) (h : HO) (k : D), x = .ref b ∧ y = .ref a ∧ Lh G H ∧ H a = some h ∧ tdO X.prog X.w a es kvs h ∧ DqKT X.K G es kvs ∧ Dq X.K G (.ref b) k ∧ (tkey k).isSome = true ∧ Q (.bl (if neg = true then !hasKey k kvs else hasKey k kvs)) H
theorem td_in {pins : List (Addr × Obj)} {s : Shared} {σ : St} {H : Hp} {G : Wd} {a b : Addr} {es : List (V × V)} {kvs : List (D × D)} {h : HO} {k : D} {R : Value → Shared → Prop} (hu : X.A.units + 9 < cLine) (I : Inv X pins σ H s) (l : Lh G H) (ha : H a = some h) (t : tdO X.prog X.w a es kvs h) (q : DqKT X.K G es kvs) (dk : Dq X.K G (.ref b) k) (hk : (tkey k).isSome = true)
    (r : ∀ t', R (.bool (hasKey k kvs)) { s with toks := t' }) : wpAny (model X.prog X.w) X.A (compareOp .In (.ref b) (.ref a)) R X.xe s := by
  obtain ⟨n, hn⟩ := Option.isSome_iff_exists.mp hk
  obtain ⟨hs, xs, te, hl, nd, rfl⟩ := t
  obtain ⟨k1, k2, _⟩ := tkey_ok hn
  refine wpAny_in_heap (knd := nestedKind X.prog X.w) (k := n) (show X.A.in1.units + 8 < cLine by show X.A.units + 1 + 8 < cLine; omega) ⟨nested_of I l dk k1 rfl, k2⟩ hs (td_dict I l ha te q nd) ?_
  have e : (atKey xs n).isSome = hasKey k kvs := by
    rw [← valAt_has]
    rcases te.at_ hn q with ⟨e1, e2⟩ | ⟨_, _, _, _, e1, e2, _⟩
    · rw [e1, e2]; rfl
    · rw [e1, e2]; rfl
  rw [e]
  exact r _
theorem op_tin (hu : X.A.units + 9 < cLine) : OpR X (compareOp .In) (rTIn X false) := by
  intro pins s σ H x y v u Q I rx ry h
  obtain ⟨a, b, G, es, kvs, h, k, rfl, rfl, l, ha, t, q, dk, hk, hq⟩ := h
  cases rx
  cases ry
  exact td_in hu I l ha t q dk hk fun t' => ⟨.bl _, H, I.tok t', rfl, hq⟩
theorem op_tnotin (hu : X.A.units + 9 < cLine) : OpR X (compareOp .NotIn) (rTIn X true) := by
  intro pins s σ H x y v u Q I rx ry h
  obtain ⟨a, b, G, es, kvs, h, k, rfl, rfl, l, ha, t, q, dk, hk, hq⟩ := h
  cases rx
  cases ry
  have h0 := td_in (R := fun v s' => ∃ t', v = .bool (hasKey k kvs) ∧ s' = { s with toks := t' }) hu I l ha t q dk hk fun t' => ⟨t', rfl, rfl⟩
  have h1 : wpAny (model X.prog X.w) X.A (contains (.ref a) (.ref b)) (fun r s' => ∃ t', r = hasKey k kvs ∧ s' = { s with toks := t' }) X.xe s := by
    have h0 : wpAny (model X.prog X.w) X.A (do return Value.bool (← contains (.ref a) (.ref b))) _ X.xe s := h0
    intro Γ p hΓ
    have h0 := h0 Γ p hΓ
    simp only [Sem.wp_bind', Sem.wp_pure'] at h0
    exact Sem.wp_mono _ Γ _ (fun r p1 s1 ⟨t', e1, e2⟩ => ⟨t', by injection e1, e2⟩) (fun _ _ _ h => h) _ _ h0
  show wpAny _ _ (do return Value.bool !(← contains (.ref a) (.ref b))) _ _ s
  exact wpAny_bind (wpAny_mono h1 (fun r s' ⟨t', e1, e2⟩ => wpAny_pure (by subst e1 e2; exact ⟨.bl _, H, I.tok t', rfl, hq⟩)) fun _ _ h => h)
def rTIx (X : Cx) : R2 := fun x y H Q => ∃ (a b : Addr) (G : Wd) (es : List (V × V)) (kvs : List (D × D)) (h : HO) (k : D) (d : D), x = .ref a ∧ y = .ref b ∧ Lh G H ∧ H a = some h ∧ tdO X.prog X.w a es kvs h ∧ DqKT X.K G es kvs ∧ Dq X.K G (.ref b) k ∧ (tkey k).isSome = true ∧ valAt kvs k = some d ∧ ∀ v, Dq X.K G v d → Q v H
theorem ix_td (hu : X.A.units + 9 < cLine) : IxR X (rTIx X) := by
  intro value slice pins s σ H x y v u Q I rx ry h hs
  obtain ⟨a, b, G, es, kvs, h, k, d, rfl, rfl, l, ha, t, q, dk, hk, hv, hq⟩ := h
  cases rx
  cases ry
  obtain ⟨n, hn⟩ := Option.isSome_iff_exists.mp hk
  obtain ⟨hsm, xs, te, hl, nd, rfl⟩ := t
  obtain ⟨k1, k2, _⟩ := tkey_ok hn
  have dd := td_dict I l ha te q nd
  have hT : s.TypeIs (.ref a) "dict" := dd.typeIs
  have h2 : wpAny (model X.prog X.w) X.A (getItem (.ref a) (.ref b)) (EP X pins σ Q) X.xe s := by
    rcases te.at_ hn q with ⟨e1, e2⟩ | ⟨c', u', v', d', e1, e2, rv, dv⟩
    · rw [hv] at e2; cases e2
    · rw [hv] at e2
      cases e2
      exact wpAny_getItem_heap (knd := nestedKind X.prog X.w) (k := n) (p := (c', u')) (show X.A.in1.units + 8 < cLine by show X.A.units + 1 + 8 < cLine; omega) ⟨nested_of I l dk k1 rfl, k2⟩ dd e1 ⟨v', H, I.tok _, rv, hq v' dv⟩
  unfold PyProof.Rows.subscriptTail
  refine wpAny_bind ?_
  rw [getitemInPython_of_ne hT.not_modules]
  refine wpAny_bind (wpAny_specialOf hT PySem.F.slot_dict_getitem.lookup ?_)
  have fin : wpAny (model X.prog X.w) X.A (subscripted slice false (.ref a) (.ref b)) (fun r s₃ => wpAny (model X.prog X.w) X.A (letTemporaryGo value (.ref a) r >>= fun _ => pure r) (EP X pins σ Q) X.xe s₃) X.xe s := by
    rw [hs]
    exact wpAny_operating (wpAny_mono h2 (fun r s₃ h₃ => wpAny_bind (wpAny_letTemporaryGo (wpAny_pure h₃))) fun _ _ x => x)
  first
    | exact wpAny_pure (wpAny_bind fin)
    | exact wpAny_bind (wpAny_pure (wpAny_bind fin))
    | exact wpAny_bind fin
theorem TdE.put {n : NestedKey} {k0 d0 : D} {v0 : V} {u0 : Value} {K : Fg} {G : Wd} (h0 : tkey k0 = some n) (r0 : RelV v0 u0) (q0 : Dq K G v0 d0) : ∀ {es : List (V × V)} {kvs : List (D × D)} {xs : List (NestedKey × Addr × Value)}, TdE es kvs xs → DqKT K G es kvs →
    ∃ es', TdE es' (kvs.map fun kv => if D.eqv kv.1 k0 = true then (kv.1, d0) else kv) (xs.map (putAt n u0)) ∧ DqKT K G es' (kvs.map fun kv => if D.eqv kv.1 k0 = true then (kv.1, d0) else kv)
  | _, _, _, .nil, _ => ⟨[], .nil, .nil⟩
  | _, _, _, .cons (a := a) (v := v) (k := k) (d := d) (n := n') (u := u) h r t, .cons q1 q2 q3 => by
    obtain ⟨es', t1, t2⟩ := TdE.put h0 r0 q0 t q3
    have eq : D.eqv k k0 = decide (n' = n) := keyN_eqv (tkey_ok h).1 (tkey_ok h0).1
    simp only [List.map_cons, eq, putAt]
    by_cases z : n' = n
    · simp only [z, decide_true, if_true]
      exact ⟨(.ref a, v0) :: es', .cons (by rw [h, z]) r0 t1, .cons q1 q0 t2⟩
    · simp only [z, decide_false, if_false, Bool.false_eq_true]
      exact ⟨(.ref a, v) :: es', .cons h r t1, .cons q1 q2 t2⟩
theorem TdE.app {n : NestedKey} {k0 d0 : D} {v0 : V} {u0 : Value} {b : Addr} {K : Fg} {G : Wd} (h0 : tkey k0 = some n) (r0 : RelV v0 u0) (qb : Dq K G (.ref b) k0) (q0 : Dq K G v0 d0) : ∀ {es : List (V × V)} {kvs : List (D × D)} {xs : List (NestedKey × Addr × Value)}, TdE es kvs xs → DqKT K G es kvs →
    TdE (es ++ [(.ref b, v0)]) (kvs ++ [(k0, d0)]) (xs ++ [(n, b, u0)]) ∧ DqKT K G (es ++ [(.ref b, v0)]) (kvs ++ [(k0, d0)])
  | _, _, _, .nil, _ => ⟨.cons h0 r0 .nil, .cons qb q0 .nil⟩
  | _, _, _, .cons h r t, .cons q1 q2 q3 => by
    obtain ⟨t1, t2⟩ := TdE.app h0 r0 qb q0 t q3
    exact ⟨.cons h r t1, .cons q1 q2 t2⟩
/-- what a store into such a dict asks, and leaves -/
def TPut (X : Cx) (H : Hp) (a b : Addr) (v : V) (R : Hp → Prop) : Prop := ∃ (G : Wd) (es : List (V × V)) (kvs : List (D × D)) (h : HO) (k d : D), Lh G H ∧ H a = some h ∧ tdO X.prog X.w a es kvs h ∧ DqKT X.K G es kvs ∧ Dq X.K G (.ref b) k ∧ (tkey k).isSome = true ∧ Dq X.K G v d ∧ kvs.length < sizeLine ∧
  ∀ es' h', tdO X.prog X.w a es' (putD kvs k d) h' → DqKT X.K G es' (putD kvs k d) → (∀ x q, h' ≠ LamX.CodeO x q) → (∀ ps, h' ≠ .tbl ps) → (∀ x, h' ≠ .own x) → R (upd H a h')
theorem td_set {pins : List (Addr × Obj)} {s : Shared} {σ : St} {H : Hp} {a b : Addr} {v : V} {r : Value} {R : Hp → Prop} {Q : Unit → Shared → Prop} {E : Value → Shared → Prop} (hu : X.A.units + 9 < cLine) (I : Inv X pins σ H s) (h : TPut X H a b v R) (rv : RelV v r) (k : ∀ H' s', Inv X pins σ H' s' → R H' → Q () s') : wpAny (model X.prog X.w) X.A (setItem (.ref a) (.ref b) r) Q E s := by
  obtain ⟨G, es, kvs, h, k0, d, l, ha, t, q, dk, hk, dv, hz, w⟩ := h
  obtain ⟨n, hn⟩ := Option.isSome_iff_exists.mp hk
  obtain ⟨hsm, xs, te, hl, nd, rfl⟩ := t
  obtain ⟨k1, k2, _⟩ := tkey_ok hn
  have dd := td_dict I l ha te q nd
  refine wpAny_setItem_heap (knd := nestedKind X.prog X.w) (k := n) (hsz := hl) (show X.A.in1.units + 8 < cLine by show X.A.units + 1 + 8 < cLine; omega) ⟨nested_of I l dk k1 rfl, k2⟩ dd fun h' dd' hs => ?_
  obtain ⟨ob, ents, ep, g1, g2, g3, g4, _, g5⟩ := dd'
  have key : ∃ es', TdE es' (putD kvs k0 d) (storedH xs n b r) ∧ DqKT X.K G es' (putD kvs k0 d) := by
    unfold putD storedH
    rcases te.at_ hn q with ⟨e1, e2⟩ | ⟨_, _, _, _, e1, e2, _⟩
    · have hk0 : hasKey k0 kvs = false := by rw [← valAt_has, e2]; rfl
      rw [hk0, e1]
      simp only [Bool.false_eq_true, if_false, Option.isSome_none]
      exact ⟨_, te.app hn rv dk dv q⟩
    · have hk0 : hasKey k0 kvs = true := by rw [← valAt_has, e2]; rfl
      rw [hk0, e1]
      simp only [if_true, Option.isSome_some]
      exact te.put hn rv dv q
  obtain ⟨es', t1, t2⟩ := key
  have hlen : (storedH xs n b r).length ≤ sizeLine := by
    rw [← te.len] at hz
    unfold storedH
    split
    · rw [List.length_map]; exact hl
    · rw [List.length_append, List.length_singleton]; omega
  have new : ObjOk X.prog X.w (upd H a (TdH X.prog X.w a (storedH xs n b r))) h' a (TdH X.prog X.w a (storedH xs n b r)) := by
    refine ⟨⟨ob, ents, ep, g1, g2, g3, g4⟩, ⟨ob, g1⟩, fun h1 h2 ⟨o1, e1, p1, x1, x2⟩ up => ⟨o1, e1, p1, up _ x1, x2⟩⟩
  exact k _ _ (d_write (t' := s.toks + (nestedKind X.prog X.w).draws n) I (by rw [ha]; exact True.intro) hs ⟨ob, g1⟩ new) (w es' _ ⟨hsm, _, t1, hlen, g5, rfl⟩ t2 (td_ne g1 g2 g3 g4) (fun ps z => by unfold TdH at z; cases z) (fun x z => by unfold TdH at z; cases z))
def sTPut (X : Cx) (td ty tv : TE) : TS := fun Dn σ H => tv σ H fun v H1 => td σ H1 fun x H2 => ty σ H2 fun y H3 => ∃ a b, x = .ref a ∧ y = .ref b ∧ TPut X H3 a b v (fun H4 => Dn.nx σ H4)
theorem ps_tput {i : Expr} {td ty tv : TE} (hu : X.A.units + 9 < cLine) (ho : PE X o td) (hi : PE X i ty) (hv : PE X value tv) (hs : swapsWith value (some (.Subscript o i pos')) pos.line X.env = pure false) :
    PS X (.Assign [.Subscript o i pos'] value pos) (sTPut X td ty tv) := by
  refine ⟨fun pins s σ H D I h => ?_⟩
  refine wpAny_Assign_Subscript (thn (hv.run pins s σ H _ I h) fun r s1 ⟨v, H1, I1, rv, q1⟩ => thn (ho.run pins s1 σ H1 _ I1 q1) fun u s2 ⟨x, H2, I2, rx, q2⟩ => thn (hi.run pins s2 σ H2 _ I2 q2) fun iv s3 ⟨y, H3, I3, ry, a, b, ex, ey, g⟩ => ?_) hs
  subst ex
  subst ey
  obtain rfl : u = Value.ref a := rx
  obtain rfl : iv = Value.ref b := ry
  exact td_set hu I3 g rv fun H' s' I' r' => ⟨σ, H', I', r'⟩
/-- {}, to be such a dict -/
def tDNewN (X : Cx) : TE := fun _ H Q => ∀ p h, H p = none → tdO X.prog X.w p [] [] h → (∀ x q, h ≠ LamX.CodeO x q) → (∀ ps, h ≠ .tbl ps) → (∀ x, h ≠ .own x) → Q (.ref p) (upd H p h)
theorem pe_dnewN : PE X (.Dict [] [] pos) (tDNewN X) := ⟨fun pins s σ H Q I h => by
  have e1 : (s.heap.push { cls := .type "dict", data := .dict #[] }).get? s.heap.objs.size = some { cls := .type "dict", data := .dict #[] } := Heap.get?_push_size _ rfl
  have new : ObjOk X.prog X.w (upd H s.heap.objs.size (TdH X.prog X.w s.heap.objs.size [])) (s.heap.push { cls := .type "dict", data := .dict #[] }) s.heap.objs.size (TdH X.prog X.w s.heap.objs.size []) :=
    ⟨⟨_, #[], 0, e1, ⟨rfl, rfl, rfl⟩, rfl, rfl⟩, ⟨_, e1⟩, fun h1 h2 ⟨o1, e1, p1, x1, x2⟩ up => ⟨o1, e1, p1, up _ x1, x2⟩⟩
  exact wpAny_Dict_empty ⟨.ref s.heap.objs.size, _, I.laid (t' := s.toks) (fun _ _ q => Heap.get?_push_of_some _ q) (Nat.le_refl _) new, rfl, h _ _ (I.hok.fresh (Nat.le_refl _)) ⟨beq_eq_false_iff_ne.mpr (Ne.symm (Nat.ne_of_lt I.big)), [], .nil, Nat.zero_le _, List.nodup_nil, rfl⟩ (td_ne (es := #[]) (ep := 0) e1 ⟨rfl, rfl, rfl⟩ rfl rfl) (fun ps z => by unfold TdH at z; cases z) (fun x z => by unfold TdH at z; cases z)⟩⟩
end
end Mi
set_option Elab.async false
set_option linter.all false
set_option maxRecDepth 100000
set_option maxHeartbeats 4000000
namespace Mi
open PySem L2
section
variable {X : Cx} {T : Tb} {c : Gh} {W : WX} {a b e o value : Expr} {es : List Expr} {f f1 f2 fo fv fk : MM D} {g : MM (List D)} {pos pos' p apos : Pos}
/-! ### operators that look into the store -/
def Op2M (X : Cx) (T : Tb) (c : Gh) (W : WX) (f : Value → Value → Sem Value) (g : D → D → MM D) : Prop :=
  ∃ r : R2, OpR X f r ∧ ∀ σ ρ G H x y d e (Q : VK), J X.K T c G H σ ρ → Dq X.K G x d → Dq X.K G y e → pX X.K T c W (relD X.K) σ G Q (g d e ρ) → r x y H Q
def op2M (g : D → D → MM D) (f1 f2 : MM D) : MM D := MM.bind f1 fun x => MM.bind f2 fun y => g x y
theorem op2M_to {r : R2} {g : D → D → MM D} (k : ∀ σ ρ G H x y d e (Q : VK), J X.K T c G H σ ρ → Dq X.K G x d → Dq X.K G y e → pX X.K T c W (relD X.K) σ G Q (g d e ρ) → r x y H Q)
    (σ : St) (H : Hp) (Q : VK) (h : mE X.K T c W (op2M g f1 f2) σ H Q) : tOp r (mE X.K T c W f1) (mE X.K T c W f2) σ H Q := by
  obtain ⟨G, ρ, j, p⟩ := h
  refine pX_bind j p fun x v ρ1 G1 H1 l1 j1 r1 p1 => ?_
  refine pX_bind j1 p1 fun y w ρ2 G2 H2 l2 j2 r2 p2 => ?_
  exact k σ ρ2 G2 H2 v w x y Q j2 (r1.le l2) r2 p2
theorem me_cmpM {op : CmpOp} {g : D → D → MM D} (ho : Op2M X T c W (compareOp op) g) (ha : PE X a (mE X.K T c W f1)) (hb : PE X b (mE X.K T c W f2)) (hm : behindInMarks op b = false) : PE X (.Compare a [op] [b] pos) (mE X.K T c W (op2M g f1 f2)) := by
  obtain ⟨r, h, k⟩ := ho
  exact pe_mono (pe_cmpR h ha hb hm) (op2M_to k)
def opTM (g : D → D → MM D) (f1 f2 : MM D) : MM Bool := MM.bind (op2M g f1 f2) fun x => lift (toB x)
theorem mt_cmpM {op : CmpOp} {g : D → D → MM D} (ho : Op2M X T c W (compareOp op) g) (ha : PE X a (mE X.K T c W f1)) (hb : PE X b (mE X.K T c W f2)) (hm : behindInMarks op b = false) : PT X (.Compare a [op] [b] pos) (mT X.K T c W (opTM g f1 f2)) := by
  obtain ⟨r, h, k⟩ := ho
  refine pt_mono (pt_cmpR h ha hb hm) fun σ H Q ⟨G, ρ, j, p⟩ => ?_
  refine op2M_to k σ H _ (pX_bind j p fun x v ρ1 G1 H1 l1 j1 r1 p1 => ?_)
  cases r1 with
  | bl b => exact ⟨b, rfl, p1.here j1 rfl⟩
  | _ => exact p1.elim
/-- the pairs of a dict's cell, whose keys are ints and texts -/
def dicOf : Cell → Option (List (D × D))
  | .dic kvs => some kvs
  | .dlk kvs => some kvs
  | _ => none
theorem dicOf_at {K : Fg} {G : Wd} {H : Hp} {a : Addr} {u : Cell} {kvs : List (D × D)} (h : dicOf u = some kvs) (ct : CellAt K T G H a u) : ∃ es, Rd H a (.dK es) ∧ DqKV K G es kvs := by
  cases ct with
  | dic h1 h2 => cases h; exact ⟨_, .inl h1, h2⟩
  | dlk h1 h2 => cases h; exact ⟨_, .inr ⟨_, h1⟩, h2⟩
  | _ => cases h
/-- k in d -/
def inC (u : Cell) (k : D) : Option Bool := match dicOf u with
  | some kvs => (match keyOf k with
    | some _ => some (hasKey k kvs)
    | none => none)
  | none => (match u with
    | .tdc kvs => if (tkey k).isSome = true then some (hasKey k kvs) else none
    | _ => none)
def inM (neg : Bool) (x y : D) : MM D := fun ρ => match cellAt ρ y with
  | some (_, u) => (match inC u x with
    | some b => .ok (.bool (if neg = true then !b else b)) ρ
    | none => .stuck)
  | none => lift (if neg = true then dNotIn x y else dIn x y) ρ
theorem inM_to {neg : Bool} (hT : T.td = tdO X.prog X.w) {σ : St} {ρ : MSt} {G : Wd} {H : Hp} {x y : V} {d e : D} {Q : VK} (j : J X.K T c G H σ ρ) (dx : Dq X.K G x d) (dy : Dq X.K G y e) (p : pX X.K T c W (relD X.K) σ G Q (inM neg d e ρ)) :
    rDIn neg x y H Q ∨ rTIn X neg x y H Q ∨ pX X.K T c W (relD X.K) σ G Q (lift (if neg = true then dNotIn d e else dIn d e) ρ) := by
  unfold inM at p
  split at p
  · rename_i n u hc
    obtain ⟨a, b', μ, rfl, rfl, hm, hs, hu, ga, ct⟩ := j.cell dy hc
    cases z : inC u d with
    | none => rw [z] at p; exact p.elim
    | some q =>
      rw [z] at p
      unfold inC at z
      cases hd : dicOf u with
      | some kvs =>
        rw [hd] at z
        obtain ⟨es, h1, h2⟩ := dicOf_at hd ct
        cases hk : keyOf d with
        | none => simp only [hk] at z; cases z
        | some k =>
          simp only [hk] at z
          cases z
          have ek := keyOf_keyD hk
          subst ek
          have ev := dq_key dx
          subst ev
          refine .inl ⟨a, _, rfl, .inl ⟨_, k, h1, rfl, rfl⟩, ?_⟩
          rw [dqkv_has h2]
          exact p.here j (.bl _)
      | none =>
        rw [hd] at z
        cases ct with
        | @tdc es' kvs' ho t c1 c2 c3 h1 h2 =>
          have z : (if (tkey d).isSome = true then some (hasKey d kvs') else none) = some q := z
          by_cases hk : (tkey d).isSome = true
          · rw [if_pos hk] at z
            cases z
            obtain ⟨nk, hn⟩ := Option.isSome_iff_exists.mp hk
            obtain ⟨_, _, xs, rfl⟩ := tkey_ok hn
            rw [hT] at t
            cases dx with
            | @tup ba _ _ q1 q2 => exact .inr (.inl ⟨a, ba, G, _, _, _, _, rfl, rfl, j.sub, h1, t, h2, .tup q1 q2, hk, p.here j (.bl _)⟩)
          · rw [if_neg hk] at z; cases z
        | dic h1 h2 => cases hd
        | dlk h1 h2 => cases hd
        | _ => cases z
  · exact .inr (.inr p)
theorem o_inM (hu : X.A.units + 9 < cLine) (hT : T.td = tdO X.prog X.w) : Op2M X T c W (compareOp .In) (inM false) := by
  obtain ⟨r, h, k⟩ := o_in (X := X) (T := T) (c := c) (W := W) (by omega)
  refine ⟨_, (op_din (by omega)).or ((op_tin hu).or h), fun σ ρ G H x y d e Q j dx dy p => ?_⟩
  rcases inM_to hT j dx dy p with q | q | q
  · exact .inl q
  · exact .inr (.inl q)
  · exact .inr (.inr (k σ ρ G H x y d e Q j dx dy q))
theorem o_notInM (hu : X.A.units + 9 < cLine) (hT : T.td = tdO X.prog X.w) : Op2M X T c W (compareOp .NotIn) (inM true) := by
  obtain ⟨r, h, k⟩ := o_notIn (X := X) (T := T) (c := c) (W := W) (by omega)
  refine ⟨_, (op_dnotin (by omega)).or ((op_tnotin hu).or h), fun σ ρ G H x y d e Q j dx dy p => ?_⟩
  rcases inM_to hT j dx dy p with q | q | q
  · exact .inl q
  · exact .inr (.inl q)
  · exact .inr (.inr (k σ ρ G H x y d e Q j dx dy q))
/-- d[k] -/
def ixC (u : Cell) (k : D) : Option D := match dicOf u with
  | some kvs => (match keyOf k with
    | some _ => valAt kvs k
    | none => none)
  | none => (match u with
    | .tdc kvs => if (tkey k).isSome = true then valAt kvs k else none
    | .lst xs => (match k with
      | .int i => atI xs i
      | _ => none)
    | _ => none)
def ixM (x y : D) : MM D := fun ρ => match cellAt ρ x with
  | some (_, u) => (match ixC u y with
    | some d => .ok d ρ
    | none => .stuck)
  | none => lift (dIx x y) ρ
theorem IxR.or {r r' : R2} (h : IxR X r) (h' : IxR X r') : IxR X (fun x y H Q => r x y H Q ∨ r' x y H Q) := by
  intro value slice pins s σ H x y v u Q I rx ry q hs
  rcases q with q | q
  · exact h value slice pins s σ H x y v u Q I rx ry q hs
  · exact h' value slice pins s σ H x y v u Q I rx ry q hs
theorem ix_read {σ : St} {ρ : MSt} {G : Wd} {H : Hp} {x y : V} {d e : D} {Q : VK} (j : J X.K T c G H σ ρ) (dx : Dq X.K G x d) (dy : Dq X.K G y e) (p : pX X.K T c W (relD X.K) σ G Q (lift (dIx d e) ρ)) :
    rIxL X.K x y H Q ∨ rIxT X.K x y H Q ∨ (∃ a v, x = .ref a ∧ DGet H a y (some v) ∧ Q v H) := by
  cases dx with
  | lst h1 h2 =>
    cases dy with
    | int i =>
      rename_i ds
      have p2 : pX X.K T c W (relD X.K) σ G Q (lift (match atI ds i with | some d => Res.ok d | none => .stuck) ρ) := p
      cases z : atI ds i with
      | none => rw [z] at p2; exact p2.elim
      | some q =>
        rw [z] at p2
        obtain ⟨v, q1, q2⟩ := dq_at h2 z
        exact .inl ⟨_, _, i, v, rfl, rfl, sqL_sub (.inl h1) j.subH, q1, p2.here j q2⟩
    | _ => exact p.elim
  | tup h1 h2 =>
    cases dy with
    | int i =>
      rename_i ds
      have p2 : pX X.K T c W (relD X.K) σ G Q (lift (match atI ds i with | some d => Res.ok d | none => .stuck) ρ) := p
      cases z : atI ds i with
      | none => rw [z] at p2; exact p2.elim
      | some q =>
        rw [z] at p2
        obtain ⟨v, q1, q2⟩ := dq_at h2 z
        exact .inr (.inl ⟨_, _, i, v, rfl, rfl, sqT_sub h1.sq j.subH, q1, p2.here j q2⟩)
    | _ => exact p.elim
  | dic h1 h2 =>
    rename_i ad kvs ds
    have p2 : pX X.K T c W (relD X.K) σ G Q (lift (match keyOf e with | some _ => (match valAt ds e with | some d => Res.ok d | none => .stuck) | none => .stuck) ρ) := by
      cases e <;> exact p
    cases hk : keyOf e with
    | none => rw [hk] at p2; exact p2.elim
    | some k =>
      rw [hk] at p2
      have ee := keyOf_keyD hk
      subst ee
      have ev := dq_key dy
      subst ev
      rcases dqkv_val (k := k) h2 with ⟨q1, q2⟩ | ⟨v, d, q1, q2, q3⟩
      · simp only [q2] at p2; exact p2.elim
      · simp only [q2] at p2
        exact .inr (.inr ⟨_, v, rfl, .inl ⟨_, k, j.subH.rd _ _ (fun _ _ z => by cases z) h1.rd, rfl, q1.symm⟩, p2.here j q3⟩)
  | _ => exact p.elim
theorem me_ixM (hu : X.A.units + 9 < cLine) (hT : T.td = tdO X.prog X.w) (ha : PE X a (mE X.K T c W f1)) (hb : PE X b (mE X.K T c W f2)) (hs : PlainIx b) : PE X (.Subscript a b pos) (mE X.K T c W (op2M ixM f1 f2)) := by
  refine pe_mono (pe_ix ((ix_list.or (ix_tup.or (ix_d (by omega)))).or (ix_td hu)) ha hb hs) (op2M_to fun σ ρ G H x y d e Q j dx dy p => ?_)
  unfold ixM at p
  split at p
  · rename_i n u hc
    obtain ⟨a, b', μ, rfl, rfl, hm, hst, hu', ga, ct⟩ := j.cell dx hc
    cases z : ixC u e with
    | none => rw [z] at p; exact p.elim
    | some q =>
      rw [z] at p
      unfold ixC at z
      cases hd : dicOf u with
      | some kvs =>
        rw [hd] at z
        obtain ⟨es, h1, h2⟩ := dicOf_at hd ct
        cases hk : keyOf e with
        | none => simp only [hk] at z; cases z
        | some k =>
          simp only [hk] at z
          have ek := keyOf_keyD hk
          subst ek
          have ev := dq_key dy
          subst ev
          rcases dqkv_val (k := k) h2 with ⟨q1, q2⟩ | ⟨v, d, q1, q2, q3⟩
          · rw [q2] at z; cases z
          · rw [q2] at z
            cases z
            exact .inl (.inr (.inr ⟨_, v, rfl, .inl ⟨_, k, h1, rfl, q1.symm⟩, p.here j q3⟩))
      | none =>
        rw [hd] at z
        cases ct with
        | @tdc es' kvs' ho t c1 c2 c3 h1 h2 =>
          have z : (if (tkey e).isSome = true then valAt kvs' e else none) = some q := z
          by_cases hk : (tkey e).isSome = true
          · rw [if_pos hk] at z
            obtain ⟨nk, hn⟩ := Option.isSome_iff_exists.mp hk
            obtain ⟨_, _, xs, rfl⟩ := tkey_ok hn
            rw [hT] at t
            cases dy with
            | @tup ba _ _ q1 q2 => exact .inr ⟨a, ba, G, _, _, _, _, q, rfl, rfl, j.sub, h1, t, h2, .tup q1 q2, hk, z, fun v dv => p.here j dv⟩
          · rw [if_neg hk] at z; cases z
        | dic h1 h2 => cases hd
        | dlk h1 h2 => cases hd
        | @lst vs xs h1 h2 =>
          cases dy with
          | int i =>
            have z : atI xs i = some q := z
            obtain ⟨v, q1, q2⟩ := dq_at h2 z
            exact .inl (.inl ⟨_, _, i, v, rfl, rfl, SqL.of h1, q1, p.here j q2⟩)
          | _ => cases z
        | _ => cases z
  · exact .inl (ix_read j dx dy p)
/-! ### stores into cells, new cells -/
def putK (v d k : D) : MM Fl := fun ρ => match stoOf ρ, cellAt ρ d with
  | some (true, μ), some (n, .dic kvs) => (match keyOf k with
    | some _ => if kvs.length < sizeLine then .ok .nx (setSto ρ (μ.set n (.dic (putD kvs k v)))) else .stuck
    | none => .stuck)
  | _, _ => .stuck
def dputS (fv fd fk : MM D) : MM Fl := MM.bind fv fun v => MM.bind fd fun d => MM.bind fk fun k => Mi.putK v d k
theorem ms_dput {i : Expr} (hu : X.A.units + 1 < cLine) (ho : PE X o (mE X.K T c W fo)) (hi : PE X i (mE X.K T c W fk)) (hv : PE X value (mE X.K T c W fv)) (hs : swapsWith value (some (.Subscript o i pos')) pos.line X.env = pure false := by rfl) : PS X (.Assign [.Subscript o i pos'] value pos) (mS X.K T c W (dputS fv fo fk)) := by
  refine ps_mono (ps_dput hu ho hi hv hs) fun Dn σ H ⟨G, ρ, j, p⟩ => ?_
  refine pS_bind j p fun v x ρ1 G1 H1 l1 j1 r1 p1 => ?_
  refine pS_bind j1 p1 fun d y ρ2 G2 H2 l2 j2 r2 p2 => ?_
  refine pS_bind j2 p2 fun k z ρ3 G3 H3 l3 j3 r3 p3 => ?_
  unfold Mi.putK at p3
  split at p3
  · rename_i μ0 n kvs hs0 hc
    obtain ⟨a, b, μ, rfl, rfl, hm, hs, hu, ga, ct⟩ := j3.cell (r2.le l3) hc
    rw [hs] at hs0
    cases hs0
    cases hk : keyOf k with
    | none => simp only [hk] at p3; exact p3.elim
    | some key =>
      simp only [hk] at p3
      by_cases hz : kvs.length < sizeLine
      · rw [if_pos hz] at p3
        cases ct with
        | @dic es _ h1 h2 =>
          have ek := keyOf_keyD hk
          subst ek
          have ev := dq_key r3
          subst ev
          exact ⟨a, _, rfl, DPut.k h1 (by rw [h2.length]; exact hz), p3 σ G3 _ (Le.refl G3) (j3.upCell hs hm hu (.dic upd_same (h2.put ((r1.le l2).le l3))))⟩
      · rw [if_neg hz] at p3; exact p3.elim
  · exact p3.elim
def tputK (v d k : D) : MM Fl := fun ρ => match stoOf ρ, cellAt ρ d with
  | some (true, μ), some (n, .tdc kvs) => if (tkey k).isSome = true ∧ kvs.length < sizeLine then .ok .nx (setSto ρ (μ.set n (.tdc (putD kvs k v)))) else .stuck
  | _, _ => .stuck
def tputS (fv fd fk : MM D) : MM Fl := MM.bind fv fun v => MM.bind fd fun d => MM.bind fk fun k => tputK v d k
theorem ms_tput {i : Expr} (hu : X.A.units + 9 < cLine) (hT : T.td = tdO X.prog X.w) (ho : PE X o (mE X.K T c W fo)) (hi : PE X i (mE X.K T c W fk)) (hv : PE X value (mE X.K T c W fv)) (hs : swapsWith value (some (.Subscript o i pos')) pos.line X.env = pure false := by rfl) : PS X (.Assign [.Subscript o i pos'] value pos) (mS X.K T c W (tputS fv fo fk)) := by
  refine ps_mono (ps_tput hu ho hi hv hs) fun Dn σ H ⟨G, ρ, j, p⟩ => ?_
  refine pS_bind j p fun v x ρ1 G1 H1 l1 j1 r1 p1 => ?_
  refine pS_bind j1 p1 fun d y ρ2 G2 H2 l2 j2 r2 p2 => ?_
  refine pS_bind j2 p2 fun k z ρ3 G3 H3 l3 j3 r3 p3 => ?_
  unfold tputK at p3
  split at p3
  · rename_i μ0 n kvs hs0 hc
    obtain ⟨a, b, μ, rfl, rfl, hm, hs, hu, ga, ct⟩ := j3.cell (r2.le l3) hc
    rw [hs] at hs0
    cases hs0
    by_cases hz : (tkey k).isSome = true ∧ kvs.length < sizeLine
    · rw [if_pos hz] at p3
      cases ct with
      | tdc t c1 c2 c3 h1 h2 =>
        obtain ⟨nk, hn⟩ := Option.isSome_iff_exists.mp hz.1
        obtain ⟨_, _, xs, rfl⟩ := tkey_ok hn
        rw [hT] at t
        cases r3 with
        | @tup ba _ _ q1 q2 =>
          exact ⟨a, ba, rfl, rfl, G3, _, _, _, _, v, j3.sub, h1, t, h2, .tup q1 q2, hz.1, (r1.le l2).le l3, hz.2, fun es' h' t' q' n1 n2 n3 => p3 σ G3 _ (Le.refl G3) (j3.upCell hs hm hu (.tdc (by rw [hT]; exact t') n1 n2 n3 upd_same q'))⟩
    · rw [if_neg hz] at p3; exact p3.elim
  · exact p3.elim
def newC (u : Cell) : MM D := fun ρ => match stoOf ρ with
  | some (true, μ) => .ok (.loc μ.length) (setSto ρ (μ ++ [u]))
  | _ => .stuck
theorem J.madeC {K : Fg} {G : Wd} {H H' : Hp} {σ : St} {ρ : MSt} {q : Addr} {u : Cell} {Q : VK} {μ : Sto} (j : J K T c G H σ ρ) (hs : stoOf ρ = some (true, μ)) (p : pX K T c W (relD K) σ G Q (.ok (.loc μ.length) (setSto ρ (μ ++ [u])))) (hq : H q = none) (up : ∀ b o, H b = some o → H' b = some o) (hc : CellAt K T (wgrow G q) H' q u) : Q (.ref q) H' :=
  p _ (wgrow G q) H' (Le.wgrow G q) (j.newCell hs hq up hc) (.loc (by rw [← (j.stoOk hs).len]; exact wgrow_at))
theorem up_new {H : Hp} {q : Addr} {o : HO} (hq : H q = none) : ∀ b u, H b = some u → upd H q o b = some u := fun b u e => by rw [upd_ne (ne_of_none e hq)]; exact e
theorem me_newDic : PE X (.Dict [] [] pos) (mE X.K T c W (newC (.dic []))) := by
  refine pe_mono pe_dnewK fun σ H Q ⟨G, ρ, j, p⟩ => fun q hq => ?_
  unfold newC at p
  split at p
  · rename_i μ hs; exact j.madeC hs p hq (up_new hq) (.dic upd_same .nil)
  · exact p.elim
theorem me_newTdc (hT : T.td = tdO X.prog X.w) : PE X (.Dict [] [] pos) (mE X.K T c W (newC (.tdc []))) := by
  refine pe_mono pe_dnewN fun σ H Q ⟨G, ρ, j, p⟩ => fun q h hq t n1 n2 n3 => ?_
  unfold newC at p
  split at p
  · rename_i μ hs; exact j.madeC hs p hq (up_new hq) (.tdc (by rw [hT]; exact t) n1 n2 n3 upd_same .nil)
  · exact p.elim
def newLst (g : MM (List D)) : MM D := MM.bind g fun xs => if small xs.length = true then newC (.lst xs) else stuck
theorem me_newLst (h : PA X es (mA X.K T c W g)) : PE X (.List es pos) (mE X.K T c W (newLst g)) := by
  refine pe_mono (pe_lst h) fun σ H Q ⟨G, ρ, j, p⟩ => ?_
  refine pX_bind j p fun x v ρ1 G1 H1 l1 j1 r1 p1 => ?_
  split at p1
  · rename_i hz
    refine ⟨by rw [r1.length]; exact of_decide_eq_true hz, fun q hq => ?_⟩
    unfold newC at p1
    split at p1
    · rename_i μ hs; exact j1.madeC hs p1 hq (up_new hq) (.lst upd_same (r1.le (Le.wgrow G1 q)))
    · exact p1.elim
  · exact p1.elim
end
end Mi
set_option Elab.async false
set_option linter.all false
set_option maxRecDepth 100000
set_option maxHeartbeats 4000000
namespace Mi
open PySem L2
theorem hu9 {k : Nat} {A : Around} (r : Room k A) : A.units + 9 < cLine := by have := r.units; omega
/-- a method of a class of the program -/
structure DefM (K : Fg) (C m qual : Str) (st : Stmt) (ps : List Str) where
  f : Addr
  fd : FuncData
  F : Fun K m qual st f fd
  e : f = He.fAd K (C, some m)
  b : Binds K fd ps []
def clsBody : Stmt → List Stmt
  | .ClassDef _ _ _ b _ _ _ _ _ _ _ => b
  | _ => []
def inn (st : Stmt) (j : Nat) : Stmt := (clsBody st).getD j (.Pass ⟨0, 0, 0, 0⟩)
section
variable {X : Cx} {T : Tb} {c : Gh} {W : WX} {a b e : Expr} {f f1 f2 : MM D} {pos p : Pos} {tg : Expr}
/-! ### < of tuples and lists -/
def isSeqD : D → Bool
  | .list _ | .tuple _ => true
  | _ => false
def ltOk (d e : D) : Bool := noDict d && noDict e && PySem.W.alike d.py e.py && decide (d.depth ≤ 60)
def dLtG (d e : D) : Res D := if isSeqD d = true then (if ltOk d e = true then .ok (.bool (PySem.W.dataLt d.py e.py)) else .stuck) else dLt d e
def rLtG (K : Fg) : R2 := fun x y H Q => ∃ d e : PyData, Dp K H x d ∧ Dp K H y e ∧ PySem.W.alike d e = true ∧ d ≠ .none ∧ d.depth ≤ 60 ∧ Q (.bl (PySem.W.dataLt d e)) H
theorem op_ltG (hu : X.A.units + 64 < cLine) : OpR X (compareOp .Lt) (rLtG X.K) := by
  intro pins s σ H x y v u Q I rx ry h
  obtain ⟨d, e, hd, he, al, nn, dp, q⟩ := h
  obtain ⟨as, r1⟩ := Dp.reads I d x v hd rx
  obtain ⟨bs, r2⟩ := Dp.reads I e y u he ry
  exact PySem.W.lt_data r1 r2 al nn (by have : min d.depth e.depth ≤ d.depth := Nat.min_le_left _ _; omega) ⟨.bl _, H, I, rfl, q⟩
theorem o_ltG (hu : X.A.units + 64 < cLine) : Op2 X T c W (compareOp .Lt) dLtG := by
  obtain ⟨r, h, k⟩ := o_lt (X := X) (T := T) (c := c) (W := W)
  refine ⟨_, h.or (op_ltG hu), fun σ ρ G H x y d e Q j dx dy p => ?_⟩
  unfold dLtG at p
  by_cases z : isSeqD d = true
  · rw [if_pos z] at p
    by_cases ok : ltOk d e = true
    · rw [if_pos ok] at p
      unfold ltOk at ok
      simp only [Bool.and_eq_true, decide_eq_true_eq] at ok
      obtain ⟨⟨⟨o1, o2⟩, o3⟩, o4⟩ := ok
      refine .inr ⟨d.py, e.py, dp_of (dx.up j.sub) o1, dp_of (dy.up j.sub) o2, o3, ?_, o4, p.here j (.bl _)⟩
      cases d <;> first | (cases z; done) | (intro y; cases y)
    · rw [if_neg ok] at p; exact p.elim
  · rw [if_neg z] at p; exact .inl (k σ ρ G H x y d e Q j dx dy p)
/-! ### range(a, b, -1) -/
def downTo (hi : Int) (n : Nat) : List D := (List.range n).map fun (i : Nat) => .int (hi + (i : Int) * (-1))
theorem gives_down {K : Fg} {G : Wd} {lo : Int} {n : Nat} : Gives (relD K) (Itc lo (-1) n) G (downTo lo n) where
  go := fun i G1 H l1 l2 hi => by show i < n; simpa [downTo] using hi
  stop := fun G1 H l1 l2 => by show n ≤ _; simp [downTo]
  yld := fun i G1 H x H' l1 l2 hi y => by
    obtain ⟨e, h2⟩ := y
    refine ⟨.int (lo + (i : Int) * (-1)), ?_, .inl ⟨e, by rw [h2]; exact .int _⟩⟩
    have hi : i < n := by simpa [downTo] using hi
    simp [downTo, hi]
def range3 : List D → Res (List D)
  | [.int i, .int j, .int c] => if inB i = true ∧ inB j = true ∧ c = -1 then .ok (downTo i (i - j).toNat) else .stuck
  | _ => .stuck
theorem mi_range3 {d : Expr} {g : MM (List D)} (hg : Gl X "range") (hm : X.mg "range" = none) (ha : PA X [a, b, d] (mA X.K T c W g)) (hs : starEach [a, b, d] X.env = (false, eval a X.env) :: starEach [b, d] X.env := by rfl) (hpl : (backTo pos (starEach [b, d] X.env)).any (·.1) = false := by rfl) :
    PI X tg (.Call (.Name "range" p) [a, b, d] [] pos) (mI X.K T c W (relD X.K) (MM.bind g fun ds => lift (range3 ds))) := by
  refine ⟨fun pins s σ H R I ⟨G, ρ, j, q⟩ => (pi_range3 hg hm ha hs hpl).run pins s σ H R I ?_⟩
  refine pX_bind j q fun ds vs ρ1 G1 H1 l1 j1 r1 p1 => ?_
  unfold range3 at p1
  split at p1
  · rename_i i k cc
    by_cases z : inB i = true ∧ inB k = true ∧ cc = -1
    · rw [if_pos z] at p1
      obtain ⟨z1, z2, rfl⟩ := z
      obtain ⟨a1, a2⟩ := inB_ok z1
      obtain ⟨b1, b2⟩ := inB_ok z2
      cases r1 with
      | cons h1 r1 => cases r1 with
        | cons h2 r1 => cases r1 with
          | cons h3 r1 =>
            cases r1
            cases h1; cases h2; cases h3
            exact ⟨i, k, -1, (i - k).toNat, rfl, RgC.neg a1 a2 b1 b2, p1 _ G1 H1 (Le.refl G1) j1 gives_down⟩
    · rw [if_neg z] at p1; exact p1.elim
  · exact p1.elim
/-! ### xs[::-1] -/
def revE (f : MM D) : MM D := MM.bind f fun d => match d with
  | .list xs => MM.pure (.list xs.reverse)
  | _ => stuck
theorem DqAll.reverse {K : Fg} {G : Wd} : ∀ {vs : List V} {ds : List D}, DqAll K G vs ds → DqAll K G vs.reverse ds.reverse
  | _, _, .nil => .nil
  | _, _, .cons h t => by
    rw [List.reverse_cons, List.reverse_cons]
    exact (DqAll.reverse t).app (.one h)
theorem me_rev {k : Nat} {p1 p2 p3 : Pos} (he : PE X e (mE X.K T c W f)) : PE X (.Subscript e (.Slice none none (some (.UnaryOp .USub (.Constant (.int 1) k p1) p2)) p3) pos) (mE X.K T c W (revE f)) := by
  refine pe_mono (pe_revL he) fun σ H Q ⟨G, ρ, j, p⟩ => ?_
  refine pX_bind j p fun d v ρ1 G1 H1 l1 j1 r1 p1 => ?_
  cases r1 with
  | lst h1 h2 =>
    refine ⟨_, _, rfl, sqL_sub (.inl h1) j1.subH, fun q hq => ?_⟩
    exact p1 _ _ _ (Le.upd (j1.fresh hq)) (j1.grow hq) (.lst (.inl upd_same) (h2.reverse.le (Le.upd (j1.fresh hq))))
  | _ => exact p1.elim
end
end Mi
set_option Elab.async false
set_option linter.all false
set_option maxRecDepth 100000
set_option maxHeartbeats 4000000
namespace PySem
open Sem (wp)
open AutoSeq1 (wpAny_loadPart')
theorem mi_enumerate_newT (l : Addr) (items : Array Value) (n : Nat) (dct : Option Addr) (sl : Array (Option Value)) :
    Meets (Builtin.«enumerate.__new__» ⟨[.type "enumerate", .ref l], []⟩) (fun _ R s => s.heap.get? l = some { cls := .type "tuple", dict := dct, data := .seq items n, slots := sl } ∧
      R (.ok (.ret (.ref (s.heap.push { cls := .type "tuple_iterator", data := .fields #[.ref l, .int 0 0] }).objs.size)))
        { s with heap := (s.heap.push { cls := .type "tuple_iterator", data := .fields #[.ref l, .int 0 0] }).push { cls := .type "enumerate", data := .fields #[.none, .bool false, .ref s.heap.objs.size, rawInt 0, .none, .none] } }) :=
  .of_wp fun prog w A R s h => by
    obtain ⟨hp, g, d, tk, os⟩ := s; obtain ⟨hl, h⟩ := h
    have hsub := sub_enumerate
    have hL : Heap.IsTuple (Shared.heap ⟨hp, g, d, tk, os⟩) l items := ⟨_, hl, rfl, n, rfl⟩
    wp_walk using wpAny_loadPart' hl
    refine wpAny_stack_any fun st => wpAny_pure ?_
    split
    · rename_i c _ _ _ _ _
      cases (c == Value.type "enumerate")
      · wp_walk using wpAny_loadPart' hl, wpAny_pyIter_tuple hL
        exact ⟨_, rfl, h⟩
      · wp_walk using wpAny_loadPart' hl, wpAny_pyIter_tuple hL
        exact ⟨_, rfl, h⟩
    · wp_walk using wpAny_loadPart' hl, wpAny_pyIter_tuple hL
      exact ⟨_, rfl, h⟩
section
variable {prog : Program} {w : World} {A : Around} {E : Value → Shared → Prop} {s : Shared}
theorem mi_call_enumerateT {l : Addr} {items : Array Value} {Q : Value → Shared → Prop} (hL : s.heap.IsTuple l items)
    (h : ∀ h', IsEnum h' (s.heap.objs.size + 1) s.heap.objs.size 0 .none → h'.IsTupleIter s.heap.objs.size l 0 → h'.objs.size = s.heap.objs.size + 2 →
      (∀ b o, s.heap.get? b = some o → h'.get? b = some o) → Q (.ref (s.heap.objs.size + 1)) { s with heap := h' }) :
    wpAny (model prog w) A (call (.type "enumerate") [.ref l]) Q E s := by
  obtain ⟨⟨c, dct, dt, sl⟩, hl, hc, n, hd⟩ := hL
  replace hc : c = .type "tuple" := hc
  replace hd : dt = .seq items n := hd
  subst hc hd
  refine callType_new F.called_enumerate (by decide) (F.typeCall_enumerate_1 _) (F.newCall_enumerate_1 _) (fun obj => F.args_object_init_2 obj _) F.entry_enumerate_new
    (mi_enumerate_newT l items n dct sl) ⟨hl, ?_⟩
  have hz : (s.heap.push { cls := .type "tuple_iterator", data := .fields #[.ref l, .int 0 0] }).objs.size = s.heap.objs.size + 1 := Heap.size_push ..
  show _ ∧ _
  rw [hz]
  have he : IsEnum ((s.heap.push { cls := .type "tuple_iterator", data := .fields #[.ref l, .int 0 0] }).push
      { cls := .type "enumerate", data := .fields #[.none, .bool false, .ref s.heap.objs.size, rawInt 0, .none, .none] }) (s.heap.objs.size + 1) s.heap.objs.size 0 .none := by
    have := Heap.get?_push_size (s.heap.push { cls := .type "tuple_iterator", data := .fields #[.ref l, .int 0 0] })
      (o := { cls := .type "enumerate", data := .fields #[.none, .bool false, .ref s.heap.objs.size, rawInt 0, .none, .none] }) rfl
    rw [hz] at this; exact this
  refine ⟨⟨_, he, rfl⟩, h _ he ⟨_, Heap.get?_push_of_some _ (Heap.get?_push_size _ rfl), rfl, rfl⟩ (by rw [Heap.size_push, hz]) fun b o x => Heap.get?_push_of_some _ (Heap.get?_push_of_some _ x)⟩
end
end PySem
namespace Mi
open PySem PySem.Spec PyProof.Rows L2
def IteT (K : PySem.W.Frag) (a : Addr) : It :=
  ⟨fun i H => ∃ (xs : List V) (x : V), SqT K H a xs ∧ xs[i]? = some x, fun i H v H' => ∃ T x, v = .ref T ∧ H T = none ∧ H' = upd H T (.tup [.int (i : Nat), x]) ∧ ∀ xs, SqT K H a xs → xs[i]? = some x, fun i H => ∃ xs : List V, SqT K H a xs ∧ xs.length = i⟩
theorem turn_enumT {P : Program} {w : World} {K : PySem.W.Frag} {elts : List Expr} {kk : Nat} {tpos : Pos} (a e it : Addr) :
    Turn P w K (.Tuple elts kk tpos) (IteT K a) [e, it] e (fun i h => (∃ old, IsEnum h e it ((i : Nat) : Int) old) ∧ h.IsTupleIter it a i ∧ e ≠ it) where
  mem := by simp
  obj := fun i h st b hb => by
    obtain ⟨⟨old, he⟩, ⟨o, ho, hc, hd⟩, _⟩ := st
    have e' : b = e ∨ b = it := by simpa using hb
    rcases e' with z | z
    · rw [z]; exact ⟨_, he, fun v q => nomatch q⟩
    · rw [z]; exact ⟨o, ho, fun v q => by rw [hd] at q; cases q⟩
  keep := fun i h h' st k => let ⟨⟨old, he⟩, ⟨o, ho, hc, hd⟩, hne⟩ := st; ⟨⟨old, k e (by simp) _ he⟩, ⟨o, k it (by simp) o ho, hc, hd⟩, hne⟩
  item := by
    intro X hP hw hK hc i pins s σ H E I hf st hg
    subst hP hw hK
    obtain ⟨⟨old, he⟩, hit, hne⟩ := st
    obtain ⟨xs, x, hq, hx⟩ := hg
    obtain ⟨its, rv, p, hz⟩ := I.tuple hq
    obtain ⟨u, hu, ru⟩ := rv.get hx
    have hel : e < s.heap.objs.size := Heap.lt_size he
    have hil : it < s.heap.objs.size := by obtain ⟨_, q, _⟩ := hit; exact Heap.lt_size q
    have hit0 := hit
    have nai : a ≠ it := fun z => by
      obtain ⟨o1, q1, c1, _⟩ := hit0
      obtain ⟨o2, q2, c2, _⟩ := p
      rw [z, q1] at q2; cases q2
      rw [c1] at c2; injection c2 with c2; exact absurd c2 (by decide)
    have nae : e ≠ a := fun z => by
      obtain ⟨o2, q2, c2, _⟩ := p
      rw [← z, show s.heap.get? e = _ from he] at q2; cases q2
      injection c2 with c2; exact absurd c2 (by decide)
    have hlt : i < its.toArray.size := by simpa using (List.getElem?_eq_some_iff.mp hu).1
    have D := Draws.tuple (prog := X.prog) (w := X.w) (A := X.A.in1) (I.ok.hd hc) it a nai its.toArray
    refine wpAny_pyNext_enum_itemD D he ⟨hit, p⟩ hlt hne (by simp [hne, nae]) fun v h' tk pv ho hst' hT hsz hk => ?_
    have ev : v = u := by
      rw [List.getElem?_toArray] at pv
      rw [hu] at pv; cases pv; rfl
    subst ev
    obtain ⟨hit', _⟩ := hst'
    refine ⟨_, rfl, wpAny_letOwnedTupleGo_enum (s := { s with heap := h', toks := tk + 1 }) ho fun h'' he' sb => ?_⟩
    have hT2 : h''.get? s.heap.objs.size = some { cls := .type "tuple", data := .seq #[.int i tk, v] } := (sb.2 _ (Nat.ne_of_gt hel)).trans hT
    have new : ObjOk X.prog X.w (upd H s.heap.objs.size (.tup [.int (i : Nat), x])) h'' s.heap.objs.size (.tup [.int (i : Nat), x]) :=
      ⟨by show 2 ≤ sizeLine; decide, [.int i tk, v], .cons ⟨_, rfl⟩ (.cons ru .nil), ⟨_, hT2, rfl, _, rfl⟩⟩
    have I1 : Inv X pins σ (upd H s.heap.objs.size (.tup [.int (i : Nat), x])) { s with heap := h'', toks := tk + 1 } :=
      I.turnedNew (ch := [e, it]) (fun b ob hb q => (sb.2 b (fun z => hb (by simp [z]))).trans (hk b ob (fun z => hb (by simp [z])) (fun z => hb (by simp [z])) q)) hf (Nat.le_refl _) new
    obtain ⟨ot, o1, o2, o3⟩ := hit'
    refine ⟨.ref s.heap.objs.size, _, I1, rfl, ⟨_, x, rfl, I.hok.fresh (Nat.le_refl _), rfl, fun ys hy => by rw [I.tuple_inj hy hq]; exact hx⟩, ⟨⟨v, ?_⟩, ⟨ot, (sb.2 it (Ne.symm hne)).trans o1, o2, o3⟩, hne⟩, fun b hb => ?_⟩
    · have e1 : ((i + 1 : Nat) : Int) = (i : Int) + 1 := by omega
      rw [e1]; exact he'
    · have hb' : b < s.heap.objs.size := by
        have e' : b = e ∨ b = it := by simpa using hb
        rcases e' with z | z
        · rw [z]; exact hel
        · rw [z]; exact hil
      rw [upd_ne (Nat.ne_of_lt hb')]
      exact (hf b hb).1
  done := by
    intro X hP hw hK hc i pins s σ H E I hf st hg
    subst hP hw hK
    obtain ⟨⟨old, he⟩, hit, hne⟩ := st
    obtain ⟨xs, hq, hx⟩ := hg
    obtain ⟨its, rv, p, hz⟩ := I.tuple hq
    obtain ⟨f0, f1, f2, f3, f4, f5⟩ := hf it (by simp)
    have hl := rv.length
    have nai : a ≠ it := fun z => by
      obtain ⟨o1, q1, c1, _⟩ := hit
      obtain ⟨o2, q2, c2, _⟩ := p
      rw [z, q1] at q2; cases q2
      rw [c1] at c2; injection c2 with c2; exact absurd c2 (by decide)
    have D := Draws.tuple (prog := X.prog) (w := X.w) (A := X.A.in1) (I.ok.hd hc) it a nai its.toArray
    have en : its.toArray.size = i := by simp; omega
    exact wpAny_pyNext_enum_endD D he ⟨by rw [en]; exact hit, p⟩ fun h' eb => ⟨rfl, I.turned (t' := s.toks) (fun b o hb q => eb b o hb q) f0 f1 f3 f4 f5⟩
  self := fun A i s Q E st h => let ⟨⟨_, he⟩, _⟩ := st; wpAny_pyIter_enum he h
section
variable {X : Cx} {T : Tb} {c : Gh} {W : WX} {e : Expr} {p pos : Pos}
def iEnumA (K : PySem.W.Frag) (ta : TA) : TI := fun σ H R => ta σ H fun vs H1 => ∃ a xs, vs = [.ref a] ∧ ((SqL K H1 a xs ∧ R (Ite K a) H1) ∨ (SqT K H1 a xs ∧ R (IteT K a) H1))
theorem pi_enumA {ta : TA} {tpos : Pos} {elts : List Expr} {kk : Nat} (hg : Gl X "enumerate") (hm : X.mg "enumerate" = none) (ha : PA X [e] ta) (hs : starEach [e] X.env = [(false, eval e X.env)] := by rfl) :
    PI X (.Tuple elts kk tpos) (.Call (.Name "enumerate" p) [e] [] pos) (iEnumA X.K ta) := by
  refine ⟨fun pins s σ H R I h => ?_⟩
  refine Call_ (ld_blt I hg hm boot_enumerate (PyProof.Rows.callWith_type1 (thn (ha.run pos pins s σ H _ I h) fun us s1 ⟨vs, H1, I1, r1, q1⟩ => ?_) hs rfl))
  obtain ⟨a, xs, ex, q⟩ := q1
  subst ex
  cases r1 with
  | cons r rr =>
    cases rr
    cases r
    have fp : ∀ b ∈ [s1.heap.objs.size + 1, s1.heap.objs.size], FpOk X pins H1 b := fun b hb => by
      have e' : b = s1.heap.objs.size + 1 ∨ b = s1.heap.objs.size := by simpa using hb
      have hle : s1.heap.objs.size ≤ b := by
        rcases e' with z | z
        · rw [z]; exact Nat.le_add_right _ _
        · rw [z]; exact Nat.le_refl _
      exact I1.fpOk hle (I1.hok.fresh hle)
    rcases q with ⟨hq, q⟩ | ⟨hq, q⟩
    · obtain ⟨its, rv, p', hz⟩ := I1.list hq
      refine call_enumerate_list p'.isList fun h' he hit hsz hk => wpAny_pyIter_enum he ?_
      have I2 : Inv X pins σ H1 { s1 with heap := h' } := I1.kept (t' := s1.toks) hk
      exact ⟨s1.heap.objs.size + 1, [s1.heap.objs.size + 1, s1.heap.objs.size], _, _, H1, rfl, I2, turn_enum a (s1.heap.objs.size + 1) s1.heap.objs.size, ⟨⟨.none, he⟩, hit, Nat.succ_ne_self _⟩, fp, q⟩
    · obtain ⟨its, rv, p', hz⟩ := I1.tuple hq
      refine mi_call_enumerateT p' fun h' he hit hsz hk => wpAny_pyIter_enum he ?_
      have I2 : Inv X pins σ H1 { s1 with heap := h' } := I1.kept (t' := s1.toks) hk
      exact ⟨s1.heap.objs.size + 1, [s1.heap.objs.size + 1, s1.heap.objs.size], _, _, H1, rfl, I2, turn_enumT a (s1.heap.objs.size + 1) s1.heap.objs.size, ⟨⟨.none, he⟩, hit, Nat.succ_ne_self _⟩, fp, q⟩
def enumA : List D → Res (List D)
  | [.list xs] => .ok (enumD 0 xs)
  | [.tuple xs] => .ok (enumD 0 xs)
  | _ => .stuck
theorem gives_enumT {K : Fg} {G : Wd} {a : Addr} {vs : List V} {ds : List D} (hq : SqT K G a vs) (hr : DqAll K G vs ds) : Gives (relY K) (IteT K a) G (enumD 0 ds) where
  go := fun i G1 H l1 l2 hi => by
    rw [enumD_length, ← hr.length] at hi
    exact ⟨vs, vs[i], sqT_sub (sqT_sub hq l1.sub) l2.sub, by simp [hi]⟩
  stop := fun G1 H l1 l2 => ⟨vs, sqT_sub (sqT_sub hq l1.sub) l2.sub, by rw [enumD_length, ← hr.length]⟩
  yld := fun i G1 H x H' l1 l2 hi y => by
    obtain ⟨T, u, rfl, hn, rfl, y1⟩ := y
    obtain ⟨d1, e1, q1⟩ := hr.get (y1 vs (sqT_sub (sqT_sub hq l1.sub) l2.sub))
    have l3 : Le G1 (wupd G1 T (.tup [V.int i, u])) := Le.upd (le_none l2 hn)
    refine ⟨.tuple [.int i, d1], by simpa using enumD_get (n := 0) e1, .inr ⟨T, _, hn, (by intro _ z; cases z), rfl, .inr ⟨T, _, _, rfl, rfl, SqT.of upd_same, .cons (.int _) (.cons ((q1.le l1).le l3) .nil)⟩⟩⟩
theorem mi_enumA {g : MM (List D)} {tpos : Pos} {elts : List Expr} {kk : Nat} (hg : Gl X "enumerate") (hm : X.mg "enumerate" = none) (ha : PA X [e] (mA X.K T c W g)) (hs : starEach [e] X.env = [(false, eval e X.env)] := by rfl) :
    PI X (.Tuple elts kk tpos) (.Call (.Name "enumerate" p) [e] [] pos) (mI X.K T c W (relY X.K) (MM.bind g fun ds => lift (enumA ds))) := by
  refine ⟨fun pins s σ H R I h => (pi_enumA hg hm ha hs).run pins s σ H R I ?_⟩
  obtain ⟨G, ρ, j, p⟩ := h
  refine pX_bind j p fun ds vs ρ1 G1 H1 l1 j1 r1 p1 => ?_
  cases r1 with
  | nil => exact p1.elim
  | cons d1 r1 =>
    cases r1 with
    | cons _ _ => cases d1 <;> exact p1.elim
    | nil =>
      cases d1 with
      | lst h1 h2 => exact ⟨_, _, rfl, .inl ⟨sqL_sub (.inl h1) j1.subH, p1 _ G1 H1 (Le.refl G1) j1 (gives_enum (.inl h1) h2)⟩⟩
      | tup h1 h2 => exact ⟨_, _, rfl, .inr ⟨sqT_sub h1.sq j1.subH, p1 _ G1 H1 (Le.refl G1) j1 (gives_enumT h1.sq h2)⟩⟩
      | _ => exact p1.elim
end
end Mi
set_option Elab.async false
set_option linter.all false
set_option maxRecDepth 100000
set_option maxHeartbeats 1000000
namespace Mi
open PySem PySem.Spec PyProof.Rows L2
/-! ### min and max of lists of data -/
mutual
theorem py_inj : ∀ (d e : D), noDict d = true → noDict e = true → d.py = e.py → d = e
  | .none, e, _, h2, h => by cases e <;> first | rfl | (cases h; done) | (cases h2; done)
  | .bool b, e, _, h2, h => by cases e <;> first | (cases h; rfl) | (cases h; done) | (cases h2; done)
  | .int i, e, _, h2, h => by cases e <;> first | (cases h; rfl) | (cases h; done) | (cases h2; done)
  | .str u, e, _, h2, h => by cases e <;> first | (cases h; rfl) | (cases h; done) | (cases h2; done)
  | .list xs, e, h1, h2, h => by
    cases e with
    | list ys =>
      have h' : PyData.list (pys xs) = PyData.list (pys ys) := h
      injection h' with q
      rw [pys_inj xs ys h1 h2 q]
    | _ => first | (cases h; done) | (cases h2; done)
  | .tuple xs, e, h1, h2, h => by
    cases e with
    | tuple ys =>
      have h' : PyData.tuple (pys xs) = PyData.tuple (pys ys) := h
      injection h' with q
      rw [pys_inj xs ys h1 h2 q]
    | _ => first | (cases h; done) | (cases h2; done)
  | .dict kvs, _, h1, _, _ => by cases h1
  | .loc n, _, h1, _, _ => by cases h1
theorem pys_inj : ∀ (xs ys : List D), noDicts xs = true → noDicts ys = true → pys xs = pys ys → xs = ys
  | [], ys, _, _, h => by cases ys with
    | nil => rfl
    | cons y ys => cases h
  | x :: xs, ys, h1, h2, h => by
    cases ys with
    | nil => cases h
    | cons y ys =>
      have h' : x.py :: pys xs = y.py :: pys ys := h
      injection h' with q1 q2
      rw [noDicts, Bool.and_eq_true] at h1 h2
      rw [py_inj x y h1.1 h2.1 q1, pys_inj xs ys h1.2 h2.2 q2]
end
def mmOk (ds : List D) : Bool := alikeB ds && noDicts ds && ds.all fun d => !isNone d && decide (d.depth ≤ 60)
def minF (x : D) (xs : List D) : D := xs.foldl (fun a y => if PySem.W.dataLt y.py a.py = true then y else a) x
def maxF (x : D) (xs : List D) : D := xs.foldl (fun a y => if PySem.W.dataLt a.py y.py = true then y else a) x
theorem minF_py : ∀ (xs : List D) (x : D), (minF x xs).py = PySem.W.minD x.py (pys xs)
  | [], x => rfl
  | y :: ys, x => by
    show (minF (if PySem.W.dataLt y.py x.py = true then y else x) ys).py = PySem.W.minD (if PySem.W.dataLt y.py x.py = true then y.py else x.py) (pys ys)
    rw [minF_py ys]
    split <;> rfl
theorem maxF_py : ∀ (xs : List D) (x : D), (maxF x xs).py = PySem.W.maxD x.py (pys xs)
  | [], x => rfl
  | y :: ys, x => by
    show (maxF (if PySem.W.dataLt x.py y.py = true then y else x) ys).py = PySem.W.maxD (if PySem.W.dataLt x.py y.py = true then y.py else x.py) (pys ys)
    rw [maxF_py ys]
    split <;> rfl
theorem minF_mem : ∀ (xs : List D) (x : D), minF x xs ∈ x :: xs
  | [], x => by simp [minF]
  | y :: ys, x => by
    have h : minF x (y :: ys) = minF (if PySem.W.dataLt y.py x.py = true then y else x) ys := rfl
    rw [h]
    have := minF_mem ys (if PySem.W.dataLt y.py x.py = true then y else x)
    by_cases z : PySem.W.dataLt y.py x.py = true
    · rw [if_pos z] at this ⊢
      exact List.mem_cons_of_mem _ this
    · rw [if_neg z] at this ⊢
      rcases List.mem_cons.mp this with e | e
      · rw [e]; exact List.mem_cons_self
      · exact List.mem_cons_of_mem _ (List.mem_cons_of_mem _ e)
theorem maxF_mem : ∀ (xs : List D) (x : D), maxF x xs ∈ x :: xs
  | [], x => by simp [maxF]
  | y :: ys, x => by
    have h : maxF x (y :: ys) = maxF (if PySem.W.dataLt x.py y.py = true then y else x) ys := rfl
    rw [h]
    have := maxF_mem ys (if PySem.W.dataLt x.py y.py = true then y else x)
    by_cases z : PySem.W.dataLt x.py y.py = true
    · rw [if_pos z] at this ⊢
      exact List.mem_cons_of_mem _ this
    · rw [if_neg z] at this ⊢
      rcases List.mem_cons.mp this with e | e
      · rw [e]; exact List.mem_cons_self
      · exact List.mem_cons_of_mem _ (List.mem_cons_of_mem _ e)
theorem nd_mem : ∀ {ds : List D} {d : D}, noDicts ds = true → d ∈ ds → noDict d = true
  | x :: xs, d, h, m => by
    rw [noDicts, Bool.and_eq_true] at h
    rcases List.mem_cons.mp m with rfl | m
    · exact h.1
    · exact nd_mem h.2 m
theorem depthAll_le {n : Nat} : ∀ {ds : List D}, (∀ d ∈ ds, d.depth ≤ n) → PyData.depthAll (pys ds) ≤ n
  | [], _ => Nat.zero_le _
  | d :: ds, h => by
    have h1 := h d List.mem_cons_self
    have h2 := depthAll_le (ds := ds) fun d m => h d (List.mem_cons_of_mem _ m)
    show PyData.depthAll (d.py :: pys ds) ≤ n
    rw [PyData.depthAll]
    exact Nat.max_le.mpr ⟨h1, h2⟩
theorem vals_get : ∀ {vs : List V} {us : List Value} {i : Nat} {u : Value}, Vals vs us → us[i]? = some u → ∃ v, vs[i]? = some v ∧ RelV v u
  | _, _, i, u, .nil, h => by simp at h
  | _, _, 0, u, .cons r t, h => by simp at h; subst h; exact ⟨_, rfl, r⟩
  | _, _, i + 1, u, .cons r t, h => by
    obtain ⟨v, h1, h2⟩ := vals_get t (by simpa using h)
    exact ⟨v, by simpa using h1, h2⟩
theorem dqAll_get {K : Fg} {G : Wd} : ∀ {vs : List V} {ds : List D} {i : Nat} {v : V}, DqAll K G vs ds → vs[i]? = some v → ∃ d, ds[i]? = some d ∧ Dq K G v d
  | _, _, i, v, .nil, h => by simp at h
  | _, _, 0, v, .cons r t, h => by simp at h; subst h; exact ⟨_, rfl, r⟩
  | _, _, i + 1, v, .cons r t, h => by
    obtain ⟨d, h1, h2⟩ := dqAll_get t (by simpa using h)
    exact ⟨d, by simpa using h1, h2⟩
section
variable {X : Cx} {T : Tb} {c : Gh} {W : WX} {a b e : Expr} {f f1 f2 : MM D} {pos p : Pos}
def rPick (K : Fg) (pick : PyData → List PyData → PyData) : List V → Hp → VK → Prop := fun xs H Q => ∃ a vs d ds, xs = [V.ref a] ∧ SqL K H a vs ∧ DpAll K H vs (pys (d :: ds)) ∧ mmOk (d :: ds) = true ∧
  ∀ (i : Nat) v e, vs[i]? = some v → (d :: ds)[i]? = some e → e.py = pick d.py (pys ds) → Q v H
theorem mm_alike {ds : List D} (h : mmOk ds = true) : PySem.W.AlikeAll (pys ds) := by
  unfold mmOk at h
  simp only [Bool.and_eq_true, List.all_eq_true, decide_eq_true_eq] at h
  obtain ⟨⟨h1, h2⟩, h3⟩ := h
  refine ⟨?_, fun x m => ?_⟩
  · rw [pys_map]; exact alikeB_ok h1
  · rw [pys_map] at m
    obtain ⟨d, md, rfl⟩ := List.mem_map.mp m
    have := (h3 d md).1
    have nd := nd_mem h2 md
    intro z
    cases d <;> first | (cases z; done) | (cases this; done) | (cases nd; done)
theorem mm_depth {ds : List D} (h : mmOk ds = true) : PyData.depthAll (pys ds) ≤ 60 := by
  unfold mmOk at h
  simp only [Bool.and_eq_true, List.all_eq_true, decide_eq_true_eq] at h
  exact depthAll_le fun d m => (h.2 d m).2
theorem mm_nd {ds : List D} (h : mmOk ds = true) : noDicts ds = true := by
  unfold mmOk at h
  simp only [Bool.and_eq_true] at h
  exact h.1.2
theorem pys_get {ds : List D} {i : Nat} (h : i < ds.length) : (pys ds).getD i .none = (ds[i]'h).py := by
  rw [pys_map]
  simp [List.getD, h]
theorem cr_minG (hc : X.calm = true) (hu : X.A.units + 64 < cLine) : CallR X (.builtin "min") (rPick X.K PySem.W.minD) := by
  intro pins s σ H xs us Q I r h
  obtain ⟨a, vs, d, ds, rfl, hs, dp, ok, q⟩ := h
  obtain ⟨its, rv, pl, hz⟩ := I.list hs
  rw [Vals.ref1 r]
  obtain ⟨as, hr⟩ := Dp.readsAll I _ _ _ dp rv
  have dd := mm_depth ok
  refine PySem.W.min_list_data (I.ok.hd hc) pl.isList hr (mm_alike ok) (by show X.A.units + 1 + PyData.depthAll (pys (d :: ds)) < _; omega) fun i v h' tk bs hv hR hk => ?_
  obtain ⟨w, hw, rw_⟩ := vals_get rv (by simpa using hv)
  obtain ⟨bs', r1, hi, _, _⟩ := PySem.W.readsAll_atA hr i v hv
  have hi' : i < (d :: ds).length := by simpa [pys_map] using hi
  have e1 := (reads_det (fun b o e _ => hk b o e) r1 hR).1
  refine ⟨w, H, I.kept hk, rw_, q i w ((d :: ds)[i]'hi') hw (List.getElem?_eq_getElem hi') ?_⟩
  rw [e1, ← pys_get hi']
theorem cr_maxG (hc : X.calm = true) (hu : X.A.units + 64 < cLine) : CallR X (.builtin "max") (rPick X.K PySem.W.maxD) := by
  intro pins s σ H xs us Q I r h
  obtain ⟨a, vs, d, ds, rfl, hs, dp, ok, q⟩ := h
  obtain ⟨its, rv, pl, hz⟩ := I.list hs
  rw [Vals.ref1 r]
  obtain ⟨as, hr⟩ := Dp.readsAll I _ _ _ dp rv
  have dd := mm_depth ok
  refine PySem.W.max_list_data (I.ok.hd hc) pl.isList hr (mm_alike ok) (by show X.A.units + 1 + PyData.depthAll (pys (d :: ds)) < _; omega) fun i v h' tk bs hv hR hk => ?_
  obtain ⟨w, hw, rw_⟩ := vals_get rv (by simpa using hv)
  obtain ⟨bs', r1, hi, _, _⟩ := PySem.W.readsAll_atA hr i v hv
  have hi' : i < (d :: ds).length := by simpa [pys_map] using hi
  have e1 := (reads_det (fun b o e _ => hk b o e) r1 hR).1
  refine ⟨w, H, I.kept hk, rw_, q i w ((d :: ds)[i]'hi') hw (List.getElem?_eq_getElem hi') ?_⟩
  rw [e1, ← pys_get hi']
def dMinG : List D → Res D
  | [.list (x :: xs)] => if mmOk (x :: xs) = true then .ok (minF x xs) else .stuck
  | ds => dMin ds
def dMaxG : List D → Res D
  | [.list (x :: xs)] => if mmOk (x :: xs) = true then .ok (maxF x xs) else .stuck
  | ds => dMax ds
theorem mm_pick {K : Fg} {G : Wd} {vs : List V} {x : D} {xs : List D} {i : Nat} {v : V} {e m : D} (ok : mmOk (x :: xs) = true) (h3 : DqAll K G vs (x :: xs)) (hv : vs[i]? = some v) (he : (x :: xs)[i]? = some e) (hm : m ∈ x :: xs) (hp : e.py = m.py) : Dq K G v m := by
  obtain ⟨d, hd, q⟩ := dqAll_get h3 hv
  rw [he] at hd
  cases hd
  have nd := mm_nd ok
  have : e = m := py_inj e m (nd_mem nd (List.mem_of_getElem? he)) (nd_mem nd hm) hp
  rw [← this]; exact q
theorem b_minG (hc : X.calm = true) (hu : X.A.units + 64 < cLine) : Fn1 X T c W (.builtin "min") dMinG := by
  obtain ⟨r, h, k⟩ := b_min (X := X) (T := T) (c := c) (W := W) hc
  refine ⟨_, CallR.or h (cr_minG hc hu), fun σ ρ G H xs ds Q j dx p => ?_⟩
  unfold dMinG at p
  split at p
  · rename_i x es
    by_cases ok : mmOk (x :: es) = true
    · rw [if_pos ok] at p
      obtain ⟨a, vs, rfl, h2, h3⟩ := one_list dx
      refine .inr ⟨a, vs, x, es, rfl, sqL_sub (.inl h2) j.sub.sub, dpAll_of (h3.up j.sub) (mm_nd ok), ok, fun i v e hv he hp => p.here j (mm_pick ok h3 hv he (minF_mem es x) ?_)⟩
      rw [hp, minF_py]
    · rw [if_neg ok] at p; exact p.elim
  · exact .inl (k σ ρ G H xs _ Q j dx p)
theorem b_maxG (hc : X.calm = true) (hu : X.A.units + 64 < cLine) : Fn1 X T c W (.builtin "max") dMaxG := by
  obtain ⟨r, h, k⟩ := b_max (X := X) (T := T) (c := c) (W := W) hc
  refine ⟨_, CallR.or h (cr_maxG hc hu), fun σ ρ G H xs ds Q j dx p => ?_⟩
  unfold dMaxG at p
  split at p
  · rename_i x es
    by_cases ok : mmOk (x :: es) = true
    · rw [if_pos ok] at p
      obtain ⟨a, vs, rfl, h2, h3⟩ := one_list dx
      refine .inr ⟨a, vs, x, es, rfl, sqL_sub (.inl h2) j.sub.sub, dpAll_of (h3.up j.sub) (mm_nd ok), ok, fun i v e hv he hp => p.here j (mm_pick ok h3 hv he (maxF_mem es x) ?_)⟩
      rw [hp, maxF_py]
    · rw [if_neg ok] at p; exact p.elim
  · exact .inl (k σ ρ G H xs _ Q j dx p)
end
end Mi
set_option Elab.async false
set_option linter.all false
set_option maxRecDepth 100000
set_option maxHeartbeats 4000000
namespace Mi
open PySem L2
def top (i : Nat) : Stmt := PySem.Challenge.pw_castinghall_k14_whole_apart.main.body.getD i (.Pass ⟨0, 0, 0, 0⟩)
def nsX : List Str := ["BadNumber", "BadMoulds", "BadCharge"]
structure Fx (K : Fg) (mg : Str → Option Value) where
  d__law_cell : DefF K mg "_law_cell" (top 44) ["_law_script", "_law_k"]
  d__law_rounds : DefF K mg "_law_rounds" (top 47) ["_law_script", "_law_high"]
  d__law_drawn : DefF K mg "_law_drawn" (top 45) ["_law_cell_here", "_law_k"]
  d__law_roll : DefF K mg "_law_roll" (top 46) ["_law_dice", "_law_many"]
  d__law_any_wish : DefF K mg "_law_any_wish" (top 50) ["_law_dice"]
  d__law_any_forms : DefF K mg "_law_any_forms" (top 52) ["_law_dice", "_law_high"]
  d__law_tuples : DefF K mg "_law_tuples" (top 51) ["_law_names", "_law_many"]
  d_is_whole : DefF K mg "is_whole" (top 19) ["thing", "low", "high"]
  d_need_room : DefF K mg "need_room" (top 32) ["room"]
  d_are_unlike : DefF K mg "are_unlike" (top 26) ["rows"]
  d_is_word : DefF K mg "is_word" (top 20) ["thing"]
  d_is_tuple : DefF K mg "is_tuple" (top 21) ["thing", "many"]
  d_rise : DefF K mg "rise" (top 22) ["rows"]
  d_is_wish : DefF K mg "is_wish" (top 23) ["thing"]
  d_is_form : DefF K mg "is_form" (top 30) ["thing"]
  d_need_forms : DefF K mg "need_forms" (top 31) ["forms"]
  d_subsets : DefF K mg "subsets" (top 28) ["names", "many"]
  d_both_of : DefF K mg "both_of" (top 24) ["one", "other"]
  d_do_meet : DefF K mg "do_meet" (top 33) ["forms", "names"]
  d_weighs : DefF K mg "weighs" (top 34) ["forms", "names"]
  d_is_melt : DefF K mg "is_melt" (top 35) ["room", "forms", "names"]
  d_Grouper_best : DefM K "Grouper" "best" "Grouper.best" (inn (top 37) 1) ["self", "names"]
  mt_Grouper_best : Meth K (He.ga K "Grouper") "best" d_Grouper_best.f
  d_Grouper___init__ : DefM K "Grouper" "__init__" "Grouper.__init__" (inn (top 37) 0) ["self", "room", "forms"]
  mk_Grouper : Mk K (He.ga K "Grouper") d_Grouper___init__.f
  d_fewest : DefF K mg "fewest" (top 38) ["room", "forms"]
  d_parted : DefF K mg "parted" (top 39) ["forms", "names"]
  d_most_apart : DefF K mg "most_apart" (top 40) ["forms"]
  d_apart : DefF K mg "apart" (top 41) ["forms"]
  d_at_least : DefF K mg "at_least" (top 42) ["room", "forms"]
  d__law_term : DefF K mg "_law_term" (top 48) ["_law_e"]
  d__law_told : DefF K mg "_law_told" (top 49) ["_law_deed"]
  d__law_one_melt : DefF K mg "_law_one_melt" (top 53) ["_law_room", "_law_forms", "_law_names"]
  d_need_names : DefF K mg "need_names" (top 27) ["names", "rows"]
  d_may_share : DefF K mg "may_share" (top 36) ["room", "forms", "names"]
  d_law : DefF K mg "law" (top 54) ["_law_script"]
  k_Grouper : Cls K (He.ga K "Grouper")
  g_Grouper : mg "Grouper" = some (.ref (He.ga K "Grouper"))
  na_Grouper_known : NoAttr K (He.ga K "Grouper") "known"
  na_Grouper_room : NoAttr K (He.ga K "Grouper") "room"
  na_Grouper_forms : NoAttr K (He.ga K "Grouper") "forms"
  n_len : mg "len" = none
  n_range : mg "range" = none
  n_max : mg "max" = none
  n_min : mg "min" = none
  n_tuple : mg "tuple" = none
  n_enumerate : mg "enumerate" = none
  n_isinstance : mg "isinstance" = none
  n_int : mg "int" = none
  n_bool : mg "bool" = none
  n_set : mg "set" = none
  n_str : mg "str" = none
  n_all : mg "all" = none
  n_zip : mg "zip" = none
  n_list : mg "list" = none
  n_any : mg "any" = none
  n_sorted : mg "sorted" = none
  n_sum : mg "sum" = none
  n_ValueError : mg "ValueError" = none
  c_SMALL : ∃ t, mg "SMALL" = some (.str "abcdefghijklmnopqrstuvwxyz" t)
structure Zx {K : Fg} {mg : Str → Option Value} (Y : Fx K mg) (base : Heap) (T : Tb) : Prop where
  U : ToldF K mg nsX
  mk_law : MkrF K mg base T Y.d_law.fd (qlam "law")
section
variable {P : Program} {w : World} {K : Fg} {mg : Str → Option Value} {base : Heap} {T : Tb}
theorem sc__law_told : FnScope ["_law_deed", "_law_e"] ["_law_deed"] (defScope (top 49)) := ⟨rfl, rfl, rfl, by decide +kernel, rfl, by decide +kernel, by decide +kernel⟩
theorem sc__law_term : FnScope NT ["_law_e"] (defScope (top 48)) := ⟨rfl, rfl, rfl, by decide +kernel, rfl, by decide +kernel, by decide +kernel⟩
theorem ok__law_term (Y : Fx K mg) (Z : Zx Y base T) (hT : T.td = tdO P w) : TermOk P w K mg base 1 Y.d__law_term.f Y.d__law_term.fd (KdOf K nsX) :=
  have nd := sc__law_term.nd
  term_of Y.d__law_term.F sc__law_term fun cdv A outer s H Q p cls hot hr hz hv h => by
    obtain ⟨name, ⟨hm, e⟩, q⟩ := h
    subst e
    have X1 := Z.U.x name hm
    have hp : p ∈ [p] := List.mem_cons_self
    exact ⟨_, (pss_cons (ps_set (i := 1) nd rfl (by first | exact Or.inl rfl | exact Or.inr rfl) (pe_lst (pa_cons (pe_isP X1.c hp hz hv (X1.k "BadWord" (by decide +kernel)) rfl Y.n_isinstance rfl (Z.U.g "BadWord" (by decide +kernel)) rfl (by first | exact Or.inl rfl | exact Or.inr (Or.inl rfl) | exact Or.inr (Or.inr rfl))) (pa_cons (pe_isP X1.c hp hz hv (X1.k "BadStuff" (by decide +kernel)) rfl Y.n_isinstance rfl (Z.U.g "BadStuff" (by decide +kernel)) rfl (by first | exact Or.inl rfl | exact Or.inr (Or.inl rfl) | exact Or.inr (Or.inr rfl))) (pa_cons (pe_isP X1.c hp hz hv (X1.k "BadWish" (by decide +kernel)) rfl Y.n_isinstance rfl (Z.U.g "BadWish" (by decide +kernel)) rfl (by first | exact Or.inl rfl | exact Or.inr (Or.inl rfl) | exact Or.inr (Or.inr rfl))) (pa_cons (pe_isP X1.c hp hz hv (X1.k "BadLoad" (by decide +kernel)) rfl Y.n_isinstance rfl (Z.U.g "BadLoad" (by decide +kernel)) rfl (by first | exact Or.inl rfl | exact Or.inr (Or.inl rfl) | exact Or.inr (Or.inr rfl))) pa_nil)))))) (pss_cons (ps_set (i := 1) nd rfl (by first | exact Or.inl rfl | exact Or.inr rfl) (pe_op op_catL (pv 1) (pe_lst (pa_cons (pe_isP X1.c hp hz hv (X1.k "BadNumber" (by decide +kernel)) rfl Y.n_isinstance rfl (Z.U.g "BadNumber" (by decide +kernel)) rfl (by first | exact Or.inl rfl | exact Or.inr (Or.inl rfl) | exact Or.inr (Or.inr rfl))) (pa_cons (pe_isP X1.c hp hz hv (X1.k "BadLots" (by decide +kernel)) rfl Y.n_isinstance rfl (Z.U.g "BadLots" (by decide +kernel)) rfl (by first | exact Or.inl rfl | exact Or.inr (Or.inl rfl) | exact Or.inr (Or.inr rfl))) (pa_cons (pe_isP X1.c hp hz hv (X1.k "BadCharge" (by decide +kernel)) rfl Y.n_isinstance rfl (Z.U.g "BadCharge" (by decide +kernel)) rfl (by first | exact Or.inl rfl | exact Or.inr (Or.inl rfl) | exact Or.inr (Or.inr rfl))) pa_nil)))))) (pss_cons (ps_set (i := 1) nd rfl (by first | exact Or.inl rfl | exact Or.inr rfl) (pe_op op_catL (pv 1) (pe_lst (pa_cons (pe_isP X1.c hp hz hv (X1.k "BadPaper" (by decide +kernel)) rfl Y.n_isinstance rfl (Z.U.g "BadPaper" (by decide +kernel)) rfl (by first | exact Or.inl rfl | exact Or.inr (Or.inl rfl) | exact Or.inr (Or.inr rfl))) pa_nil)))) (pss_cons (ps_set (i := 1) nd rfl (by first | exact Or.inl rfl | exact Or.inr rfl) (pe_op op_catL (pv 1) (pe_lst (pa_cons (pe_isP X1.c hp hz hv (X1.k "BadMoulds" (by decide +kernel)) rfl Y.n_isinstance rfl (Z.U.g "BadMoulds" (by decide +kernel)) rfl (by first | exact Or.inl rfl | exact Or.inr (Or.inl rfl) | exact Or.inr (Or.inr rfl))) (pa_cons (pe_isP X1.c hp hz hv (X1.k "Taken" (by decide +kernel)) rfl Y.n_isinstance rfl (Z.U.g "Taken" (by decide +kernel)) rfl (by first | exact Or.inl rfl | exact Or.inr (Or.inl rfl) | exact Or.inr (Or.inr rfl))) (pa_cons (pe_isP X1.c hp hz hv (X1.k "NoName" (by decide +kernel)) rfl Y.n_isinstance rfl (Z.U.g "NoName" (by decide +kernel)) rfl (by first | exact Or.inl rfl | exact Or.inr (Or.inl rfl) | exact Or.inr (Or.inr rfl))) (pa_cons (pe_isP X1.c hp hz hv (X1.k "TooMuch" (by decide +kernel)) rfl Y.n_isinstance rfl (Z.U.g "TooMuch" (by decide +kernel)) rfl (by first | exact Or.inl rfl | exact Or.inr (Or.inl rfl) | exact Or.inr (Or.inr rfl))) pa_nil))))))) (pss_cons (ps_set (i := 1) nd rfl (by first | exact Or.inl rfl | exact Or.inr rfl) (pe_op op_catL (pv 1) (pe_lst (pa_cons (pe_isP X1.c hp hz hv (X1.k "Nothing" (by decide +kernel)) rfl Y.n_isinstance rfl (Z.U.g "Nothing" (by decide +kernel)) rfl (by first | exact Or.inl rfl | exact Or.inr (Or.inl rfl) | exact Or.inr (Or.inr rfl))) (pa_cons (pe_isP X1.c hp hz hv (X1.k "Full" (by decide +kernel)) rfl Y.n_isinstance rfl (Z.U.g "Full" (by decide +kernel)) rfl (by first | exact Or.inl rfl | exact Or.inr (Or.inl rfl) | exact Or.inr (Or.inr rfl))) (pa_cons (pe_isP X1.c hp hz hv (X1.k "BadText" (by decide +kernel)) rfl Y.n_isinstance rfl (Z.U.g "BadText" (by decide +kernel)) rfl (by first | exact Or.inl rfl | exact Or.inr (Or.inl rfl) | exact Or.inr (Or.inr rfl))) pa_nil)))))) (pss_cons (ps_set (i := 2) nd rfl (by first | exact Or.inl rfl | exact Or.inr rfl) (pe_lst (pa_cons pe_str (pa_cons pe_str (pa_cons pe_str (pa_cons pe_str (pa_cons pe_str (pa_cons pe_str (pa_cons pe_str (pa_cons pe_str pa_nil)))))))))) (pss_cons (ps_set (i := 2) nd rfl (by first | exact Or.inl rfl | exact Or.inr rfl) (pe_op op_catL (pv 2) (pe_lst (pa_cons pe_str (pa_cons pe_str (pa_cons pe_str (pa_cons pe_str (pa_cons pe_str (pa_cons pe_str (pa_cons pe_str pa_nil)))))))))) (pss_cons (ps_if (PW.pt (pw_or (pt_cmpR op_ne (pe_callB (call_sumP ⟨p, hot, hp⟩) rfl Y.n_sum bt_sum (pa_cons (pe_lcH (own := [("_law_flag", 3)]) ⟨p, hot, hp⟩ rfl rfl nd (pv 1) (blk_of [("_law_flag", 3)] rfl) (fun s H C cl fp => pg_name (i := 3) nd rfl (by first | exact Or.inl rfl | exact Or.inr rfl)) (fun s H C cl fp => pts_nil) (fun s H C cl fp => pe_callTy call_int1 rfl Y.n_int bt_int (pa_cons (pv 3) pa_nil))) pa_nil)) pe_int (nomark _)) (pw_or1 (pt_not (pt_val (pe_isV X1.c hp hz hv X1.v rfl Y.n_isinstance rfl Y.n_ValueError rfl (by first | exact Or.inl rfl | exact Or.inr (Or.inl rfl) | exact Or.inr (Or.inr rfl)))))))) (pss_one (ps_ret (pe_tupF (pa_cons pe_str (pa_cons pe_str pa_nil))))) pss_nil) (pss_one (ps_ret (pe_tupF (pa_cons pe_str (pa_cons (pe_ix ix_list (pv 2) (pe_bm PySem.F.plainAttrs_list PySem.F.slot_list_index PySem.F.type_list_index mt_index (pv 1) (pa_cons pe_bl pa_nil)) (fun _ _ => rfl)) pa_nil))))))))))))), term_reads X1.m q⟩
theorem sc__law_cell : FnScope ["_law_script", "_law_k"] ["_law_script", "_law_k"] (defScope (top 44)) := ⟨rfl, rfl, rfl, by decide +kernel, rfl, by decide +kernel, by decide +kernel⟩
theorem ok__law_cell (Y : Fx K mg) (Z : Zx Y base T) (hT : T.td = tdO P w) : FnOk P w K mg base (L2N.CX P w) 1 Y.d__law_cell.f Y.d__law_cell.fd ["_law_script", "_law_k"] (spCell K) :=
  okN Y.d__law_cell.F sc__law_cell (fun vs H Q E ⟨a, k, ns, h, _⟩ => by rw [h]; rfl) fun cdv hcd A outer s H vs Q E hr h => ⟨_, pss_cons (ps_if (pt_cmpR (op_eqD hr.units) (pv 0) (pe_lst pa_nil) (nomark _)) (pss_one (ps_ret (pe_op op_mul (pv 1) pe_int))) pss_nil)
    (pss_one (ps_ret (pe_op op_add (pe_ix ix_list (pv 0) (pe_op op_mod (pv 1) (pe_callB call_len_seq rfl Y.n_len bt_len (pa_cons (pv 0) pa_nil))) (fun _ _ => rfl)) (pe_op op_mul (pe_op op_fdiv (pv 1) (pe_callB call_len_seq rfl Y.n_len bt_len (pa_cons (pv 0) pa_nil))) pe_int)))), cell_reads h⟩
theorem sc__law_rounds : FnScope ["_law_script", "_law_high", "_law_k"] ["_law_script", "_law_high"] (defScope (top 47)) := ⟨rfl, rfl, rfl, by decide +kernel, rfl, by decide +kernel, by decide +kernel⟩
theorem ok__law_rounds (Y : Fx K mg) (Z : Zx Y base T) (hT : T.td = tdO P w) : FnOk P w K mg base (L2N.CX P w) 2 Y.d__law_rounds.f Y.d__law_rounds.fd ["_law_script", "_law_high"] (spRounds K) :=
  okN Y.d__law_rounds.F sc__law_rounds (fun vs H Q E ⟨a, k, ns, h, _⟩ => by rw [h]; rfl) fun cdv hcd A outer s H vs Q E hr h => ⟨_, pss_one (ps_ret (pe_lc (own := [("_law_k", 2)]) rfl sc__law_rounds.nd (pi_range1 rfl Y.n_range (pa_cons (pe_callB (call_max2 rfl) rfl Y.n_max bt_max (pa_cons pe_int (pa_cons (pe_callB (call_min2 rfl) rfl Y.n_min bt_min (pa_cons (pv 1) (pa_cons (pe_callB call_len_seq rfl Y.n_len bt_len (pa_cons (pv 0) pa_nil)) pa_nil))) pa_nil))) pa_nil)) (blk_of [("_law_k", 2)] rfl)
    (fun s H C cl fp => pg_name (i := 2) sc__law_rounds.nd rfl (by first | exact Or.inl rfl | exact Or.inr rfl)) (fun s H C cl fp => pts_nil) (fun s H C cl fp => pe_lst (pa_cons (pe_callS (ok__law_cell Y Z hT) (hr.mono (by decide)) rfl Y.d__law_cell.g Y.d__law_cell.F.kp Y.d__law_cell.b (fun σ => L2N.passAt takes0 σ) (pa_cons (pv 0) (pa_cons (pv 2) pa_nil))) (pa_cons pe_int pa_nil))))), rounds_reads h⟩
def b__law_drawn : MM Fl := (seqS (asgS (op2 dMod (op2 dAdd (op2 dMul (var 0) (MM.pure (.int 6364136223846793005))) (op2 dMul (op2 dAdd (var 1) (MM.pure (.int 1))) (MM.pure (.int 1442695040888963407)))) (MM.pure (.int 340282366920938463463374607431768211507))) (setD 2)) (seqS (asgS (op2 dMod (op2 dMul (var 2) (var 2)) (MM.pure (.int 340282366920938463463374607431768211297))) (setD 2)) (seqS (asgS (op2 dMul (op2 dMul (op2 dAdd (op2 dMod (var 2) (MM.pure (.int 18446744073709551557))) (MM.pure (.int 1))) (op2 dAdd (op2 dFdiv (var 2) (MM.pure (.int 18446744073709551557))) (MM.pure (.int 1)))) (var 2)) (setD 2)) (retS (op2 dMod (var 2) (MM.pure (.int 340282366920938463463374607431768211507)))))))
def m__law_drawn : List D → Res D := runF 3 2 b__law_drawn
theorem sc__law_drawn : FnScope ["_law_cell_here", "_law_k", "_law_more"] ["_law_cell_here", "_law_k"] (defScope (top 45)) := ⟨rfl, rfl, rfl, by decide +kernel, rfl, by decide +kernel, by decide +kernel⟩
theorem ok__law_drawn (Y : Fx K mg) (Z : Zx Y base T) (hT : T.td = tdO P w) : FnOk P w K mg base (L2N.CX P w) 1 Y.d__law_drawn.f Y.d__law_drawn.fd ["_law_cell_here", "_law_k"] (spF K T m__law_drawn) :=
  have nd := sc__law_drawn.nd
  fn_def Y.d__law_drawn.F sc__law_drawn fun cdv hcd A outer s H E c hr =>
    (ms_seq (ms_set (i := 2) nd rfl (by first | exact Or.inl rfl | exact Or.inr rfl) (me_op o_mod (me_op o_add (me_op o_mul (mv 0) me_int) (me_op o_mul (me_op o_add (mv 1) me_int) me_int)) me_int)) (ms_seq (ms_set (i := 2) nd rfl (by first | exact Or.inl rfl | exact Or.inr rfl) (me_op o_mod (me_op o_mul (mv 2) (mv 2)) me_int)) (ms_seq (ms_set (i := 2) nd rfl (by first | exact Or.inl rfl | exact Or.inr rfl) (me_op o_mul (me_op o_mul (me_op o_add (me_op o_mod (mv 2) me_int) me_int) (me_op o_add (me_op o_fdiv (mv 2) me_int) me_int)) (mv 2))) (ms_one (ms_ret (me_op o_mod (mv 2) me_int))))))
def b__law_roll : MM Fl := (seqS (ifS (opT dGe (borrow (op2 dIx (var 0) (MM.pure (.int 0)))) (op2 dPow (MM.pure (.int 10)) (MM.pure (.int 18)))) (seqS (asgS (op2 dMod (borrow (op2 dIx (var 0) (MM.pure (.int 0)))) (var 1)) (setD 2)) (seqS (dsetS 0 0 (op2 dFdiv (borrow (op2 dIx (var 0) (MM.pure (.int 0)))) (var 1))) (retS (var 2)))) (MM.pure .nx)) (seqS (dsetS 0 1 (op2 dAdd (borrow (op2 dIx (var 0) (MM.pure (.int 1)))) (MM.pure (.int 1)))) (retS (op2 dMod (op2 dFdiv (callE m__law_drawn (consA (borrow (op2 dIx (var 0) (MM.pure (.int 0)))) (consA (borrow (op2 dIx (var 0) (MM.pure (.int 1)))) (MM.pure [])))) (MM.pure (.int 8))) (var 1)))))
def m__law_roll : List D → List D → Res (D × List D) := runO 3 2 b__law_roll
theorem sc__law_roll : FnScope ["_law_dice", "_law_many", "_law_told_here"] ["_law_dice", "_law_many"] (defScope (top 46)) := ⟨rfl, rfl, rfl, by decide +kernel, rfl, by decide +kernel, by decide +kernel⟩
theorem ok__law_roll (Y : Fx K mg) (Z : Zx Y base T) (hT : T.td = tdO P w) : FnOk P w K mg base (L2N.CX P w) 2 Y.d__law_roll.f Y.d__law_roll.fd ["_law_dice", "_law_many"] (spO K T m__law_roll) :=
  have nd := sc__law_roll.nd
  fn_defO Y.d__law_roll.F sc__law_roll fun cdv hcd A outer s H E c hr =>
    (ms_seq (ms_if (mt_cmp o_ge (me_borrow fun c => (me_ix (hu_of hr) (mv 0) me_int (fun _ _ => rfl))) (me_op o_pow me_int me_int) (nomark _)) (ms_seq (ms_set (i := 2) nd rfl (by first | exact Or.inl rfl | exact Or.inr rfl) (me_op o_mod (me_borrow fun c => (me_ix (hu_of hr) (mv 0) me_int (fun _ _ => rfl))) (mv 1))) (ms_seq (ms_dset (i := 0) (k := 0) rfl (by first | exact Or.inl rfl | exact Or.inr (Or.inl rfl) | exact Or.inr (Or.inr rfl)) (me_op o_fdiv (me_borrow fun c => (me_ix (hu_of hr) (mv 0) me_int (fun _ _ => rfl))) (mv 1))) (ms_one (ms_ret (mv 2))))) ms_nil) (ms_seq (ms_dset (i := 0) (k := 1) rfl (by first | exact Or.inl rfl | exact Or.inr (Or.inl rfl) | exact Or.inr (Or.inr rfl)) (me_op o_add (me_borrow fun c => (me_ix (hu_of hr) (mv 0) me_int (fun _ _ => rfl))) me_int)) (ms_one (ms_ret (me_op o_mod (me_op o_fdiv (me_call (ok__law_drawn Y Z hT) (hr.mono (by decide)) rfl Y.d__law_drawn.g Y.d__law_drawn.F.kp Y.d__law_drawn.b (L2N.takes_of rfl rfl rfl rfl) (ma_cons (me_borrow fun c => (me_ix (hu_of hr) (mv 0) me_int (fun _ _ => rfl))) (ma_cons (me_borrow fun c => (me_ix (hu_of hr) (mv 0) me_int (fun _ _ => rfl))) ma_nil))) me_int) (mv 1))))))
def b__law_any_wish_1 : MM Fl := (ifS (opT dEq (callO m__law_roll 0 (consA (MM.pure (.int 2)) (MM.pure []))) (MM.pure (.int 0))) (seqS (asgS (callO m__law_roll 0 (consA (MM.pure (.int 200)) (MM.pure []))) (setD 3)) (appS 1 (MM.bind (consA (var 2) (consA (var 3) (consA (op2 dAdd (var 3) (callO m__law_roll 0 (consA (MM.pure (.int 300)) (MM.pure [])))) (MM.pure [])))) fun xs => lift (mkT xs)))) (MM.pure .nx))
def b__law_any_wish : MM Fl := (seqS (newO (MM.pure (.ol [])) 1) (seqS (MM.bind (iterA (MM.bind (consA (MM.pure (.str "al")) (consA (MM.pure (.str "cu")) (consA (MM.pure (.str "si")) (MM.pure [])))) fun xs => lift (mkL xs))) (forD (setD 2) b__law_any_wish_1)) (fun ρ => (retS (callE dTuple (consA (var 1) (MM.pure [])))) (frzS 1 ρ))))
def m__law_any_wish : List D → List D → Res (D × List D) := runO 4 1 b__law_any_wish
theorem sc__law_any_wish : FnScope ["_law_dice", "_law_found", "_law_element", "_law_low"] ["_law_dice"] (defScope (top 50)) := ⟨rfl, rfl, rfl, by decide +kernel, rfl, by decide +kernel, by decide +kernel⟩
theorem ok__law_any_wish (Y : Fx K mg) (Z : Zx Y base T) (hT : T.td = tdO P w) : FnOk P w K mg base (L2N.CX P w) 3 Y.d__law_any_wish.f Y.d__law_any_wish.fd ["_law_dice"] (spO K T m__law_any_wish) :=
  have nd := sc__law_any_wish.nd
  fn_defO Y.d__law_any_wish.F sc__law_any_wish fun cdv hcd A outer s H E c hr =>
    (ms_seq (ms_newO (i := 1) nd rfl (by first | exact Or.inl rfl | exact Or.inr rfl) mo_newL) (ms_seq (ms_for (passes_of rfl) rfl (mi_all (me_lst (ma_cons me_str (ma_cons me_str (ma_cons me_str ma_nil))))) (mgn 2 nd) (ms_one (ms_if (mt_cmp (o_eq hr.units) (me_callO (i := 0) (ok__law_roll Y Z hT) (hr.mono (by decide)) rfl Y.d__law_roll.g Y.d__law_roll.F.kp Y.d__law_roll.b (L2N.takes_of rfl rfl rfl rfl) rfl (by first | exact Or.inl rfl | exact Or.inr (Or.inl rfl) | exact Or.inr (Or.inr rfl)) (ma_cons me_int ma_nil)) me_int (nomark _)) (ms_seq (ms_set (i := 3) nd rfl (by first | exact Or.inl rfl | exact Or.inr rfl) (me_callO (i := 0) (ok__law_roll Y Z hT) (hr.mono (by decide)) rfl Y.d__law_roll.g Y.d__law_roll.F.kp Y.d__law_roll.b (L2N.takes_of rfl rfl rfl rfl) rfl (by first | exact Or.inl rfl | exact Or.inr (Or.inl rfl) | exact Or.inr (Or.inr rfl)) (ma_cons me_int ma_nil))) (ms_one (ms_append (i := 1) rfl (by first | exact Or.inl rfl | exact Or.inr (Or.inl rfl) | exact Or.inr (Or.inr rfl)) (me_tup (ma_cons (mv 2) (ma_cons (mv 3) (ma_cons (me_op o_add (mv 3) (me_callO (i := 0) (ok__law_roll Y Z hT) (hr.mono (by decide)) rfl Y.d__law_roll.g Y.d__law_roll.F.kp Y.d__law_roll.b (L2N.takes_of rfl rfl rfl rfl) rfl (by first | exact Or.inl rfl | exact Or.inr (Or.inl rfl) | exact Or.inr (Or.inr rfl)) (ma_cons me_int ma_nil))) ma_nil))))))) ms_nil))) (ms_freeze 1 (ms_one (ms_ret (me_callTy b_tuple rfl Y.n_tuple bt_tuple (ma_cons (mv 1) ma_nil)))))))
def b__law_any_forms_1 : MM Fl := (appS 2 (MM.bind (consA (var 3) (consA (op2 dAdd (MM.pure (.int 1)) (callO m__law_roll 0 (consA (MM.pure (.int 9)) (MM.pure [])))) (consA (callO m__law_any_wish 0 (MM.pure [])) (MM.pure [])))) fun xs => lift (mkT xs)))
def b__law_any_forms : MM Fl := (seqS (newO (MM.pure (.ol [])) 2) (seqS (MM.bind (iterA (sliceE (MM.bind (consA (MM.pure (.str "ann")) (consA (MM.pure (.str "bob")) (consA (MM.pure (.str "cy")) (consA (MM.pure (.str "dee")) (consA (MM.pure (.str "eve")) (MM.pure [])))))) fun xs => lift (mkL xs)) partN (partS (op2 dAdd (MM.pure (.int 1)) (callO m__law_roll 0 (consA (var 1) (MM.pure []))))))) (forD (setD 3) b__law_any_forms_1)) (fun ρ => (retS (var 2)) (frzS 2 ρ))))
def m__law_any_forms : List D → List D → Res (D × List D) := runO 4 2 b__law_any_forms
theorem sc__law_any_forms : FnScope ["_law_dice", "_law_high", "_law_found", "_law_name"] ["_law_dice", "_law_high"] (defScope (top 52)) := ⟨rfl, rfl, rfl, by decide +kernel, rfl, by decide +kernel, by decide +kernel⟩
theorem ok__law_any_forms (Y : Fx K mg) (Z : Zx Y base T) (hT : T.td = tdO P w) : FnOk P w K mg base (L2N.CX P w) 4 Y.d__law_any_forms.f Y.d__law_any_forms.fd ["_law_dice", "_law_high"] (spO K T m__law_any_forms) :=
  have nd := sc__law_any_forms.nd
  fn_defO Y.d__law_any_forms.F sc__law_any_forms fun cdv hcd A outer s H E c hr =>
    (ms_seq (ms_newO (i := 2) nd rfl (by first | exact Or.inl rfl | exact Or.inr rfl) mo_newL) (ms_seq (ms_for (passes_of rfl) rfl (mi_all (me_slice (me_lst (ma_cons me_str (ma_cons me_str (ma_cons me_str (ma_cons me_str (ma_cons me_str ma_nil)))))) mo_none (mo_some (me_op o_add me_int (me_callO (i := 0) (ok__law_roll Y Z hT) (hr.mono (by decide)) rfl Y.d__law_roll.g Y.d__law_roll.F.kp Y.d__law_roll.b (L2N.takes_of rfl rfl rfl rfl) rfl (by first | exact Or.inl rfl | exact Or.inr (Or.inl rfl) | exact Or.inr (Or.inr rfl)) (ma_cons (mv 1) ma_nil)))))) (mgn 3 nd) (ms_one (ms_append (i := 2) rfl (by first | exact Or.inl rfl | exact Or.inr (Or.inl rfl) | exact Or.inr (Or.inr rfl)) (me_tup (ma_cons (mv 3) (ma_cons (me_op o_add me_int (me_callO (i := 0) (ok__law_roll Y Z hT) (hr.mono (by decide)) rfl Y.d__law_roll.g Y.d__law_roll.F.kp Y.d__law_roll.b (L2N.takes_of rfl rfl rfl rfl) rfl (by first | exact Or.inl rfl | exact Or.inr (Or.inl rfl) | exact Or.inr (Or.inr rfl)) (ma_cons me_int ma_nil))) (ma_cons (me_callO (i := 0) (ok__law_any_wish Y Z hT) (hr.mono (by decide)) rfl Y.d__law_any_wish.g Y.d__law_any_wish.F.kp Y.d__law_any_wish.b (L2N.takes_of rfl rfl rfl rfl) rfl (by first | exact Or.inl rfl | exact Or.inr (Or.inl rfl) | exact Or.inr (Or.inr rfl)) ma_nil) ma_nil))))))) (ms_freeze 2 (ms_one (ms_ret (mv 2))))))
def c__law_tuples_1 (r : List D → Res D) : MM D := (op2 dAdd (MM.bind (consA (var 4) (MM.pure [])) fun xs => lift (mkT xs)) (var 5))
def b__law_tuples_1 (r : List D → Res D) : MM Fl := (asgS (op2 dAdd (var 2) (MM.bind (iterA (callE r (consA (sliceE (var 0) (partS (op2 dAdd (var 3) (MM.pure (.int 1)))) partN) (consA (op2 dSub (var 1) (MM.pure (.int 1))) (MM.pure []))))) (compL [5] (setD 5) (MM.pure true) (c__law_tuples_1 r)))) (setD 2))
def b__law_tuples (r : List D → Res D) : MM Fl := (seqS (ifS (opT dEq (var 1) (MM.pure (.int 0))) (retS (MM.bind (consA (MM.bind (MM.pure []) fun xs => lift (mkT xs)) (MM.pure [])) fun xs => lift (mkL xs))) (MM.pure .nx)) (seqS (asgS (MM.bind (MM.pure []) fun xs => lift (mkL xs)) (setD 2)) (seqS (MM.bind (MM.bind (consA (var 0) (MM.pure [])) fun ds => lift (enumA ds)) (forD (setT [3, 4]) (b__law_tuples_1 r))) (retS (var 2)))))
def m__law_tuples : Nat → List D → Res D
  | 0 => fun _ => .stuck
  | n + 1 => runF 6 2 (b__law_tuples (m__law_tuples n))
theorem sc__law_tuples : FnScope ["_law_names", "_law_many", "_law_found", "_law_at", "_law_name", "_law_rest"] ["_law_names", "_law_many"] (defScope (top 51)) := ⟨rfl, rfl, rfl, by decide +kernel, rfl, by decide +kernel, by decide +kernel⟩
theorem ok__law_tuples (Y : Fx K mg) (Z : Zx Y base T) (hT : T.td = tdO P w) : ∀ n : Nat, FnOk P w K mg base (L2N.CX P w) (n + 1) Y.d__law_tuples.f Y.d__law_tuples.fd ["_law_names", "_law_many"] (spF K T (m__law_tuples n))
  | 0 => fn_out
  | n + 1 =>
    have ih := ok__law_tuples Y Z hT n
    have nd := sc__law_tuples.nd
    fn_def Y.d__law_tuples.F sc__law_tuples fun cdv hcd A outer s H E c hr =>
      (ms_seq (ms_if (mt_cmp (o_eq hr.units) (mv 1) me_int (nomark _)) (ms_one (ms_ret (me_lst (ma_cons (me_tup ma_nil) ma_nil)))) ms_nil) (ms_seq (ms_set (i := 2) nd rfl (by first | exact Or.inl rfl | exact Or.inr rfl) (me_lst ma_nil)) (ms_seq (ms_for (passes_of rfl) rfl (mi_enumA rfl Y.n_enumerate (ma_cons (mv 0) ma_nil)) (mg_tup rfl (mgc 3 nd (mgc 4 nd mgs_nil))) (ms_one (ms_set (i := 2) nd rfl (by first | exact Or.inl rfl | exact Or.inr rfl) (me_op o_add (mv 2) (me_lc rfl nd (mi_all (me_call ih (hr.mono (by omega)) rfl Y.d__law_tuples.g Y.d__law_tuples.F.kp Y.d__law_tuples.b (L2N.takes_of rfl rfl rfl rfl) (ma_cons (me_slice (mv 0) (mo_some (me_op o_add (mv 3) me_int)) mo_none) (ma_cons (me_op o_sub (mv 1) me_int) ma_nil)))) (blk_of [("_law_rest", 5)] rfl) rfl (fun c s H C cl fp => (mgn 5 nd)) (fun c s H C cl fp => mts_nil) (fun c s H C cl fp => (me_op o_add (me_tup (ma_cons (mv 4) ma_nil)) (mv 5)))))))) (ms_one (ms_ret (mv 2))))))
def b_is_whole : MM Fl := (retS (andV (isiE isInt (var 0)) (andV (notV (isiE isBool (var 0))) (chainV dLe dLe (var 1) (var 0) (var 2)))))
def m_is_whole : List D → Res D := runF 3 3 b_is_whole
theorem sc_is_whole : FnScope ["thing", "low", "high"] ["thing", "low", "high"] (defScope (top 19)) := ⟨rfl, rfl, rfl, by decide +kernel, rfl, by decide +kernel, by decide +kernel⟩
theorem ok_is_whole (Y : Fx K mg) (Z : Zx Y base T) (hT : T.td = tdO P w) : FnOk P w K mg base (L2N.CX P w) 1 Y.d_is_whole.f Y.d_is_whole.fd ["thing", "low", "high"] (spF K T m_is_whole) :=
  have nd := sc_is_whole.nd
  fn_def Y.d_is_whole.F sc_is_whole fun cdv hcd A outer s H E c hr =>
    (ms_one (ms_ret (me_and (me_isi kit_int rfl Y.n_isinstance rfl Y.n_int bt_int (mv 0) bt_isinstance) (me_and (me_not (me_isi kit_bool rfl Y.n_isinstance rfl Y.n_bool bt_bool (mv 0) bt_isinstance)) (me_one (me_chain o_le o_le (mv 1) (mv 0) (mv 2)))))))
def b_need_room : MM Fl := (ifS (notT (tst (callE m_is_whole (consA (var 0) (consA (MM.pure (.int 1)) (consA (MM.pure (.int 9999)) (MM.pure []))))))) (raiseS "BadNumber") (MM.pure .nx))
def m_need_room : List D → Res D := runF 1 1 b_need_room
theorem sc_need_room : FnScope ["room"] ["room"] (defScope (top 32)) := ⟨rfl, rfl, rfl, by decide +kernel, rfl, by decide +kernel, by decide +kernel⟩
theorem ok_need_room (Y : Fx K mg) (Z : Zx Y base T) (hT : T.td = tdO P w) : FnOk P w K mg base (L2N.CX P w) 2 Y.d_need_room.f Y.d_need_room.fd ["room"] (spF K T m_need_room) :=
  have nd := sc_need_room.nd
  fn_def Y.d_need_room.F sc_need_room fun cdv hcd A outer s H E c hr =>
    (ms_one (ms_if (mt_not (mt_val (me_call (ok_is_whole Y Z hT) (hr.mono (by decide)) rfl Y.d_is_whole.g Y.d_is_whole.F.kp Y.d_is_whole.b (L2N.takes_of rfl rfl rfl rfl) (ma_cons (mv 0) (ma_cons me_int (ma_cons me_int ma_nil)))))) (ms_one (ms_raise rfl (L2N.takes_of rfl rfl rfl rfl) (Z.U.x "BadNumber" (by decide +kernel)).o (Z.U.g "BadNumber" (by decide +kernel)) rfl)) ms_nil))
def c_are_unlike_1 : MM D := (op2 dIx (var 1) (MM.pure (.int 0)))
def b_are_unlike : MM Fl := (retS (op2 dEq (lenSetE (MM.bind (iterA (var 0)) (compL [1] (setD 1) (MM.pure true) c_are_unlike_1))) (callE dLen (consA (var 0) (MM.pure [])))))
def m_are_unlike : List D → Res D := runF 2 1 b_are_unlike
theorem sc_are_unlike : FnScope ["rows", "row"] ["rows"] (defScope (top 26)) := ⟨rfl, rfl, rfl, by decide +kernel, rfl, by decide +kernel, by decide +kernel⟩
theorem ok_are_unlike (Y : Fx K mg) (Z : Zx Y base T) (hT : T.td = tdO P w) : FnOk P w K mg base (L2N.CX P w) 1 Y.d_are_unlike.f Y.d_are_unlike.fd ["rows"] (spF K T m_are_unlike) :=
  have nd := sc_are_unlike.nd
  fn_def Y.d_are_unlike.F sc_are_unlike fun cdv hcd A outer s H E c hr =>
    (ms_one (ms_ret (me_cmp (o_eq hr.units) (me_lenset rfl rfl Y.n_len rfl Y.n_set (me_lc rfl nd (mi_all (mv 0)) (blk_of [("row", 1)] rfl) rfl (fun c s H C cl fp => (mgn 1 nd)) (fun c s H C cl fp => mts_nil) (fun c s H C cl fp => (me_ix (hu_of hr) (mv 1) me_int (fun _ _ => rfl))))) (me_callB b_len rfl Y.n_len bt_len (ma_cons (mv 0) ma_nil)) (nomark _))))
def c_is_word_1 : MM D := (op2 dIn (var 1) (MM.pure (.str "abcdefghijklmnopqrstuvwxyz")))
def b_is_word : MM Fl := (retS (andV (isiE isStr (var 0)) (andV (chainV dLe dLe (MM.pure (.int 1)) (callE dLen (consA (var 0) (MM.pure []))) (MM.pure (.int 8))) (callE dAll (consA (MM.bind (iterA (var 0)) (compL [1] (setD 1) (MM.pure true) c_is_word_1)) (MM.pure []))))))
def m_is_word : List D → Res D := runF 2 1 b_is_word
theorem sc_is_word : FnScope ["thing", "sign"] ["thing"] (defScope (top 20)) := ⟨rfl, rfl, rfl, by decide +kernel, rfl, by decide +kernel, by decide +kernel⟩
theorem ok_is_word (Y : Fx K mg) (Z : Zx Y base T) (hT : T.td = tdO P w) : FnOk P w K mg base (L2N.CX P w) 1 Y.d_is_word.f Y.d_is_word.fd ["thing"] (spF K T m_is_word) :=
  have nd := sc_is_word.nd
  fn_def Y.d_is_word.F sc_is_word fun cdv hcd A outer s H E c hr =>
    (ms_one (ms_ret (me_and (me_isi kit_str rfl Y.n_isinstance rfl Y.n_str bt_str (mv 0) bt_isinstance) (me_and (me_chain o_le o_le me_int (me_callB b_len rfl Y.n_len bt_len (ma_cons (mv 0) ma_nil)) me_int) (me_one (me_callB (b_all rfl) rfl Y.n_all bt_all (ma_cons (me_lc rfl nd (mi_all (mv 0)) (blk_of [("sign", 1)] rfl) rfl (fun c s H C cl fp => (mgn 1 nd)) (fun c s H C cl fp => mts_nil) (fun c s H C cl fp => (me_cmp (o_in (hu_of hr)) (mv 1) (me_gstr rfl Y.c_SMALL) (by rfl)))) ma_nil)))))))
def b_is_tuple : MM Fl := (retS (andV (isiE isTup (var 0)) (andV (op2 dEq (callE dLen (consA (var 0) (MM.pure []))) (var 1)) (callE m_is_word (consA (op2 dIx (var 0) (MM.pure (.int 0))) (MM.pure []))))))
def m_is_tuple : List D → Res D := runF 2 2 b_is_tuple
theorem sc_is_tuple : FnScope ["thing", "many"] ["thing", "many"] (defScope (top 21)) := ⟨rfl, rfl, rfl, by decide +kernel, rfl, by decide +kernel, by decide +kernel⟩
theorem ok_is_tuple (Y : Fx K mg) (Z : Zx Y base T) (hT : T.td = tdO P w) : FnOk P w K mg base (L2N.CX P w) 2 Y.d_is_tuple.f Y.d_is_tuple.fd ["thing", "many"] (spF K T m_is_tuple) :=
  have nd := sc_is_tuple.nd
  fn_def Y.d_is_tuple.F sc_is_tuple fun cdv hcd A outer s H E c hr =>
    (ms_one (ms_ret (me_and (me_isi kit_tup rfl Y.n_isinstance rfl Y.n_tuple bt_tuple (mv 0) bt_isinstance) (me_and (me_cmp (o_eq hr.units) (me_callB b_len rfl Y.n_len bt_len (ma_cons (mv 0) ma_nil)) (mv 1) (nomark _)) (me_one (me_call (ok_is_word Y Z hT) (hr.mono (by decide)) rfl Y.d_is_word.g Y.d_is_word.F.kp Y.d_is_word.b (L2N.takes_of rfl rfl rfl rfl) (ma_cons (me_ix (hu_of hr) (mv 0) me_int (fun _ _ => rfl)) ma_nil)))))))
def c_rise_1 : MM D := (op2 dLt (op2 dIx (var 1) (MM.pure (.int 0))) (op2 dIx (var 2) (MM.pure (.int 0))))
def b_rise : MM Fl := (retS (callE dAll (consA (MM.bind (MM.bind (consA (var 0) (consA (sliceE (var 0) (partS (MM.pure (.int 1))) partN) (MM.pure []))) fun ds => lift (zip2 ds)) (compL [1, 2] (setT [1, 2]) (MM.pure true) c_rise_1)) (MM.pure []))))
def m_rise : List D → Res D := runF 3 1 b_rise
theorem sc_rise : FnScope ["rows", "one", "other"] ["rows"] (defScope (top 22)) := ⟨rfl, rfl, rfl, by decide +kernel, rfl, by decide +kernel, by decide +kernel⟩
theorem ok_rise (Y : Fx K mg) (Z : Zx Y base T) (hT : T.td = tdO P w) : FnOk P w K mg base (L2N.CX P w) 1 Y.d_rise.f Y.d_rise.fd ["rows"] (spF K T m_rise) :=
  have nd := sc_rise.nd
  fn_def Y.d_rise.F sc_rise fun cdv hcd A outer s H E c hr =>
    (ms_one (ms_ret (me_callB (b_all rfl) rfl Y.n_all bt_all (ma_cons (me_lc rfl nd (mi_zip rfl Y.n_zip (ma_cons (mv 0) (ma_cons (me_slice (mv 0) (mo_some me_int) mo_none) ma_nil))) (blk_of [("one", 1), ("other", 2)] rfl) rfl (fun c s H C cl fp => (mg_tup rfl (mgc 1 nd (mgc 2 nd mgs_nil)))) (fun c s H C cl fp => mts_nil) (fun c s H C cl fp => (me_cmp o_lt (me_ix (hu_of hr) (mv 1) me_int (fun _ _ => rfl)) (me_ix (hu_of hr) (mv 2) me_int (fun _ _ => rfl)) (nomark _)))) ma_nil))))
def c_is_wish_1 : MM D := (callE m_is_tuple (consA (var 1) (consA (MM.pure (.int 3)) (MM.pure []))))
def c_is_wish_2 : MM D := (andV (callE m_is_whole (consA (var 3) (consA (MM.pure (.int 0)) (consA (MM.pure (.int 1000)) (MM.pure []))))) (callE m_is_whole (consA (var 4) (consA (var 3) (consA (MM.pure (.int 1000)) (MM.pure []))))))
def b_is_wish : MM Fl := (seqS (ifS (orT (notT (tst (isiE isTup (var 0)))) (orT (opT dGt (callE dLen (consA (var 0) (MM.pure []))) (MM.pure (.int 6))) (notT (tst (callE dAll (consA (MM.bind (iterA (var 0)) (compL [1] (setD 1) (MM.pure true) c_is_wish_1)) (MM.pure []))))))) (retS (MM.pure (.bool false))) (MM.pure .nx)) (seqS (ifS (notT (tst (callE m_rise (consA (var 0) (MM.pure []))))) (retS (MM.pure (.bool false))) (MM.pure .nx)) (retS (callE dAll (consA (MM.bind (iterA (var 0)) (compL [2, 3, 4] (setT [2, 3, 4]) (MM.pure true) c_is_wish_2)) (MM.pure []))))))
def m_is_wish : List D → Res D := runF 5 1 b_is_wish
theorem sc_is_wish : FnScope ["thing", "one", "element", "low", "high"] ["thing"] (defScope (top 23)) := ⟨rfl, rfl, rfl, by decide +kernel, rfl, by decide +kernel, by decide +kernel⟩
theorem ok_is_wish (Y : Fx K mg) (Z : Zx Y base T) (hT : T.td = tdO P w) : FnOk P w K mg base (L2N.CX P w) 3 Y.d_is_wish.f Y.d_is_wish.fd ["thing"] (spF K T m_is_wish) :=
  have nd := sc_is_wish.nd
  fn_def Y.d_is_wish.F sc_is_wish fun cdv hcd A outer s H E c hr =>
    (ms_seq (ms_if (PW.pt (mw_or (mt_not (mt_val (me_isi kit_tup rfl Y.n_isinstance rfl Y.n_tuple bt_tuple (mv 0) bt_isinstance))) (mw_or (mt_cmp o_gt (me_callB b_len rfl Y.n_len bt_len (ma_cons (mv 0) ma_nil)) me_int (nomark _)) (mw_or1 (mt_not (mt_val (me_callB (b_all rfl) rfl Y.n_all bt_all (ma_cons (me_lc rfl nd (mi_all (mv 0)) (blk_of [("one", 1)] rfl) rfl (fun c s H C cl fp => (mgn 1 nd)) (fun c s H C cl fp => mts_nil) (fun c s H C cl fp => (me_call (ok_is_tuple Y Z hT) (hr.mono (by decide)) rfl Y.d_is_tuple.g Y.d_is_tuple.F.kp Y.d_is_tuple.b takes0 (ma_cons (mv 1) (ma_cons me_int ma_nil))))) ma_nil)))))))) (ms_one (ms_ret me_bl)) ms_nil) (ms_seq (ms_if (mt_not (mt_val (me_call (ok_rise Y Z hT) (hr.mono (by decide)) rfl Y.d_rise.g Y.d_rise.F.kp Y.d_rise.b (L2N.takes_of rfl rfl rfl rfl) (ma_cons (mv 0) ma_nil)))) (ms_one (ms_ret me_bl)) ms_nil) (ms_one (ms_ret (me_callB (b_all rfl) rfl Y.n_all bt_all (ma_cons (me_lc rfl nd (mi_all (mv 0)) (blk_of [("element", 2), ("low", 3), ("high", 4)] rfl) rfl (fun c s H C cl fp => (mg_tupD rfl (mgc 2 nd (mgc 3 nd (mgc 4 nd mgs_nil))))) (fun c s H C cl fp => mts_nil) (fun c s H C cl fp => (me_and (me_call (ok_is_whole Y Z hT) (hr.mono (by decide)) rfl Y.d_is_whole.g Y.d_is_whole.F.kp Y.d_is_whole.b takes0 (ma_cons (mv 3) (ma_cons me_int (ma_cons me_int ma_nil)))) (me_one (me_call (ok_is_whole Y Z hT) (hr.mono (by decide)) rfl Y.d_is_whole.g Y.d_is_whole.F.kp Y.d_is_whole.b takes0 (ma_cons (mv 4) (ma_cons (mv 3) (ma_cons me_int ma_nil)))))))) ma_nil))))))
def b_is_form : MM Fl := (retS (andV (callE m_is_tuple (consA (var 0) (consA (MM.pure (.int 3)) (MM.pure [])))) (andV (callE m_is_whole (consA (op2 dIx (var 0) (MM.pure (.int 1))) (consA (MM.pure (.int 1)) (consA (MM.pure (.int 999)) (MM.pure []))))) (callE m_is_wish (consA (op2 dIx (var 0) (MM.pure (.int 2))) (MM.pure []))))))
def m_is_form : List D → Res D := runF 1 1 b_is_form
theorem sc_is_form : FnScope ["thing"] ["thing"] (defScope (top 30)) := ⟨rfl, rfl, rfl, by decide +kernel, rfl, by decide +kernel, by decide +kernel⟩
theorem ok_is_form (Y : Fx K mg) (Z : Zx Y base T) (hT : T.td = tdO P w) : FnOk P w K mg base (L2N.CX P w) 4 Y.d_is_form.f Y.d_is_form.fd ["thing"] (spF K T m_is_form) :=
  have nd := sc_is_form.nd
  fn_def Y.d_is_form.F sc_is_form fun cdv hcd A outer s H E c hr =>
    (ms_one (ms_ret (me_and (me_call (ok_is_tuple Y Z hT) (hr.mono (by decide)) rfl Y.d_is_tuple.g Y.d_is_tuple.F.kp Y.d_is_tuple.b (L2N.takes_of rfl rfl rfl rfl) (ma_cons (mv 0) (ma_cons me_int ma_nil))) (me_and (me_call (ok_is_whole Y Z hT) (hr.mono (by decide)) rfl Y.d_is_whole.g Y.d_is_whole.F.kp Y.d_is_whole.b (L2N.takes_of rfl rfl rfl rfl) (ma_cons (me_ix (hu_of hr) (mv 0) me_int (fun _ _ => rfl)) (ma_cons me_int (ma_cons me_int ma_nil)))) (me_one (me_call (ok_is_wish Y Z hT) (hr.mono (by decide)) rfl Y.d_is_wish.g Y.d_is_wish.F.kp Y.d_is_wish.b (L2N.takes_of rfl rfl rfl rfl) (ma_cons (me_ix (hu_of hr) (mv 0) me_int (fun _ _ => rfl)) ma_nil)))))))
def c_need_forms_1 : MM D := (callE m_is_form (consA (var 1) (MM.pure [])))
def b_need_forms : MM Fl := (seqS (ifS (orT (notT (tst (isiE isLst (var 0)))) (orT (notT (tst (chainV dLe dLe (MM.pure (.int 1)) (callE dLen (consA (var 0) (MM.pure []))) (MM.pure (.int 8))))) (notT (tst (callE dAll (consA (MM.bind (iterA (var 0)) (compL [1] (setD 1) (MM.pure true) c_need_forms_1)) (MM.pure []))))))) (raiseS "BadMoulds") (MM.pure .nx)) (ifS (notT (tst (callE m_are_unlike (consA (var 0) (MM.pure []))))) (raiseS "BadMoulds") (MM.pure .nx)))
def m_need_forms : List D → Res D := runF 2 1 b_need_forms
theorem sc_need_forms : FnScope ["forms", "one"] ["forms"] (defScope (top 31)) := ⟨rfl, rfl, rfl, by decide +kernel, rfl, by decide +kernel, by decide +kernel⟩
theorem ok_need_forms (Y : Fx K mg) (Z : Zx Y base T) (hT : T.td = tdO P w) : FnOk P w K mg base (L2N.CX P w) 5 Y.d_need_forms.f Y.d_need_forms.fd ["forms"] (spF K T m_need_forms) :=
  have nd := sc_need_forms.nd
  fn_def Y.d_need_forms.F sc_need_forms fun cdv hcd A outer s H E c hr =>
    (ms_seq (ms_if (PW.pt (mw_or (mt_not (mt_val (me_isi kit_lst rfl Y.n_isinstance rfl Y.n_list bt_list (mv 0) bt_isinstance))) (mw_or (mt_not (mt_chain o_le o_le me_int (me_callB b_len rfl Y.n_len bt_len (ma_cons (mv 0) ma_nil)) me_int)) (mw_or1 (mt_not (mt_val (me_callB (b_all rfl) rfl Y.n_all bt_all (ma_cons (me_lc rfl nd (mi_all (mv 0)) (blk_of [("one", 1)] rfl) rfl (fun c s H C cl fp => (mgn 1 nd)) (fun c s H C cl fp => mts_nil) (fun c s H C cl fp => (me_call (ok_is_form Y Z hT) (hr.mono (by decide)) rfl Y.d_is_form.g Y.d_is_form.F.kp Y.d_is_form.b takes0 (ma_cons (mv 1) ma_nil)))) ma_nil)))))))) (ms_one (ms_raise rfl (L2N.takes_of rfl rfl rfl rfl) (Z.U.x "BadMoulds" (by decide +kernel)).o (Z.U.g "BadMoulds" (by decide +kernel)) rfl)) ms_nil) (ms_one (ms_if (mt_not (mt_val (me_call (ok_are_unlike Y Z hT) (hr.mono (by decide)) rfl Y.d_are_unlike.g Y.d_are_unlike.F.kp Y.d_are_unlike.b (L2N.takes_of rfl rfl rfl rfl) (ma_cons (mv 0) ma_nil)))) (ms_one (ms_raise rfl (L2N.takes_of rfl rfl rfl rfl) (Z.U.x "BadMoulds" (by decide +kernel)).o (Z.U.g "BadMoulds" (by decide +kernel)) rfl)) ms_nil)))
def c_subsets_1 (r : List D → Res D) : MM D := (op2 dAdd (MM.bind (consA (var 4) (MM.pure [])) fun xs => lift (mkT xs)) (var 5))
def b_subsets_1 (r : List D → Res D) : MM Fl := (asgS (op2 dAdd (var 2) (MM.bind (iterA (callE r (consA (sliceE (var 0) (partS (op2 dAdd (var 3) (MM.pure (.int 1)))) partN) (consA (op2 dSub (var 1) (MM.pure (.int 1))) (MM.pure []))))) (compL [5] (setD 5) (MM.pure true) (c_subsets_1 r)))) (setD 2))
def b_subsets (r : List D → Res D) : MM Fl := (seqS (ifS (opT dEq (var 1) (MM.pure (.int 0))) (retS (MM.bind (consA (MM.bind (MM.pure []) fun xs => lift (mkT xs)) (MM.pure [])) fun xs => lift (mkL xs))) (MM.pure .nx)) (seqS (asgS (MM.bind (MM.pure []) fun xs => lift (mkL xs)) (setD 2)) (seqS (MM.bind (MM.bind (consA (var 0) (MM.pure [])) fun ds => lift (enumA ds)) (forD (setT [3, 4]) (b_subsets_1 r))) (retS (var 2)))))
def m_subsets : Nat → List D → Res D
  | 0 => fun _ => .stuck
  | n + 1 => runF 6 2 (b_subsets (m_subsets n))
theorem sc_subsets : FnScope ["names", "many", "found", "at", "name", "rest"] ["names", "many"] (defScope (top 28)) := ⟨rfl, rfl, rfl, by decide +kernel, rfl, by decide +kernel, by decide +kernel⟩
theorem ok_subsets (Y : Fx K mg) (Z : Zx Y base T) (hT : T.td = tdO P w) : ∀ n : Nat, FnOk P w K mg base (L2N.CX P w) (n + 1) Y.d_subsets.f Y.d_subsets.fd ["names", "many"] (spF K T (m_subsets n))
  | 0 => fn_out
  | n + 1 =>
    have ih := ok_subsets Y Z hT n
    have nd := sc_subsets.nd
    fn_def Y.d_subsets.F sc_subsets fun cdv hcd A outer s H E c hr =>
      (ms_seq (ms_if (mt_cmp (o_eq hr.units) (mv 1) me_int (nomark _)) (ms_one (ms_ret (me_lst (ma_cons (me_tup ma_nil) ma_nil)))) ms_nil) (ms_seq (ms_set (i := 2) nd rfl (by first | exact Or.inl rfl | exact Or.inr rfl) (me_lst ma_nil)) (ms_seq (ms_for (passes_of rfl) rfl (mi_enumA rfl Y.n_enumerate (ma_cons (mv 0) ma_nil)) (mg_tup rfl (mgc 3 nd (mgc 4 nd mgs_nil))) (ms_one (ms_set (i := 2) nd rfl (by first | exact Or.inl rfl | exact Or.inr rfl) (me_op o_add (mv 2) (me_lc rfl nd (mi_all (me_call ih (hr.mono (by omega)) rfl Y.d_subsets.g Y.d_subsets.F.kp Y.d_subsets.b (L2N.takes_of rfl rfl rfl rfl) (ma_cons (me_slice (mv 0) (mo_some (me_op o_add (mv 3) me_int)) mo_none) (ma_cons (me_op o_sub (mv 1) me_int) ma_nil)))) (blk_of [("rest", 5)] rfl) rfl (fun c s H C cl fp => (mgn 5 nd)) (fun c s H C cl fp => mts_nil) (fun c s H C cl fp => (me_op o_add (me_tup (ma_cons (mv 4) ma_nil)) (mv 5)))))))) (ms_one (ms_ret (mv 2))))))
def c_both_of_1 : MM D := (var 3)
def c_both_of_2 : MM D := (MM.bind (consA (var 4) (consA (var 5) (MM.pure []))) fun xs => lift (mkT xs))
def b_both_of_1 : MM Fl := (seqS (asgS (ogetE 2 (var 3) (MM.bind (consA (var 4) (consA (var 5) (MM.pure []))) fun xs => lift (mkT xs))) (setD 6)) (putS 2 (MM.bind (consA (callE dMax (consA (var 4) (consA (op2 dIx (var 6) (MM.pure (.int 0))) (MM.pure [])))) (consA (callE dMin (consA (var 5) (consA (op2 dIx (var 6) (MM.pure (.int 1))) (MM.pure [])))) (MM.pure []))) fun xs => lift (mkT xs)) (var 3)))
def c_both_of_3 : MM D := (op2 dGt (op2 dIx (op2 dIx (var 2) (var 3)) (MM.pure (.int 0))) (op2 dIx (op2 dIx (var 2) (var 3)) (MM.pure (.int 1))))
def c_both_of_4 : MM D := (op2 dAdd (MM.bind (consA (var 3) (MM.pure [])) fun xs => lift (mkT xs)) (op2 dIx (var 2) (var 3)))
def b_both_of : MM Fl := (seqS (newO (MM.bind (iterA (var 0)) (compO [3, 4, 5] (setT [3, 4, 5]) (MM.pure true) c_both_of_1 c_both_of_2)) 2) (seqS (MM.bind (iterA (var 1)) (forD (setT [3, 4, 5]) b_both_of_1)) (fun ρ => (seqS (ifS (tst (callE dAny (consA (MM.bind (iterA (var 2)) (compL [3] (setD 3) (MM.pure true) c_both_of_3)) (MM.pure [])))) (retS (MM.pure .none)) (MM.pure .nx)) (retS (callE dTuple (consA (MM.bind (iterA (callE dSorted (consA (var 2) (MM.pure [])))) (compL [3] (setD 3) (MM.pure true) c_both_of_4)) (MM.pure []))))) (frzS 2 ρ))))
def m_both_of : List D → Res D := runF 7 2 b_both_of
theorem sc_both_of : FnScope ["one", "other", "bounds", "element", "low", "high", "elder"] ["one", "other"] (defScope (top 24)) := ⟨rfl, rfl, rfl, by decide +kernel, rfl, by decide +kernel, by decide +kernel⟩
theorem ok_both_of (Y : Fx K mg) (Z : Zx Y base T) (hT : T.td = tdO P w) : FnOk P w K mg base (L2N.CX P w) 1 Y.d_both_of.f Y.d_both_of.fd ["one", "other"] (spF K T m_both_of) :=
  have nd := sc_both_of.nd
  fn_def Y.d_both_of.F sc_both_of fun cdv hcd A outer s H E c hr =>
    (ms_seq (ms_newO (i := 2) nd rfl (by first | exact Or.inl rfl | exact Or.inr rfl) (mo_dc rfl nd (mi_all (mv 0)) (blk_of [("element", 3), ("low", 4), ("high", 5)] rfl) rfl (fun c s H C cl fp => (mg_tupD rfl (mgc 3 nd (mgc 4 nd (mgc 5 nd mgs_nil))))) (fun c s H C cl fp => mts_nil) (fun c s H C cl fp => (mv 3)) (fun c s H C cl fp => (me_tup (ma_cons (mv 4) (ma_cons (mv 5) ma_nil)))))) (ms_seq (ms_for (passes_of rfl) rfl (mi_all (mv 1)) (mg_tupD rfl (mgc 3 nd (mgc 4 nd (mgc 5 nd mgs_nil)))) (ms_seq (ms_set (i := 6) nd rfl (by first | exact Or.inl rfl | exact Or.inr rfl) (me_oget (i := 2) (hu_of hr) rfl (by first | exact Or.inl rfl | exact Or.inr (Or.inl rfl) | exact Or.inr (Or.inr rfl)) (mv 3) (me_tup (ma_cons (mv 4) (ma_cons (mv 5) ma_nil))) ⟨rfl, rfl, rfl, rfl⟩)) (ms_one (ms_put (i := 2) (hu_of hr) rfl (by first | exact Or.inl rfl | exact Or.inr (Or.inl rfl) | exact Or.inr (Or.inr rfl)) (mv 3) (me_tup (ma_cons (me_callB (b_max rfl) rfl Y.n_max bt_max (ma_cons (mv 4) (ma_cons (me_ix (hu_of hr) (mv 6) me_int (fun _ _ => rfl)) ma_nil))) (ma_cons (me_callB (b_min rfl) rfl Y.n_min bt_min (ma_cons (mv 5) (ma_cons (me_ix (hu_of hr) (mv 6) me_int (fun _ _ => rfl)) ma_nil))) ma_nil))))))) (ms_freeze 2 (ms_seq (ms_if (mt_val (me_callB (b_any rfl) rfl Y.n_any bt_any (ma_cons (me_lc rfl nd (mi_all (mv 2)) (blk_of [("element", 3)] rfl) rfl (fun c s H C cl fp => (mgn 3 nd)) (fun c s H C cl fp => mts_nil) (fun c s H C cl fp => (me_cmp o_gt (me_ix (hu_of hr) (me_ix (hu_of hr) (mv 2) (mv 3) (fun _ _ => rfl)) me_int (fun _ _ => rfl)) (me_ix (hu_of hr) (me_ix (hu_of hr) (mv 2) (mv 3) (fun _ _ => rfl)) me_int (fun _ _ => rfl)) (nomark _)))) ma_nil))) (ms_one (ms_ret me_non)) ms_nil) (ms_one (ms_ret (me_callTy b_tuple rfl Y.n_tuple bt_tuple (ma_cons (me_lc rfl nd (mi_all (me_callB (b_sorted rfl hr.units) rfl Y.n_sorted bt_sorted (ma_cons (mv 2) ma_nil))) (blk_of [("element", 3)] rfl) rfl (fun c s H C cl fp => (mgn 3 nd)) (fun c s H C cl fp => mts_nil) (fun c s H C cl fp => (me_op o_add (me_tup (ma_cons (mv 3) ma_nil)) (me_ix (hu_of hr) (mv 2) (mv 3) (fun _ _ => rfl))))) ma_nil))))))))
def b_do_meet_1 : MM Fl := (ifS (opT dIn (var 3) (var 1)) (seqS (asgS (callE m_both_of (consA (var 2) (consA (var 5) (MM.pure [])))) (setD 2)) (ifS (opT dIs (var 2) (MM.pure .none)) (retS (MM.pure (.bool false))) (MM.pure .nx))) (MM.pure .nx))
def b_do_meet : MM Fl := (seqS (asgS (MM.bind (MM.pure []) fun xs => lift (mkT xs)) (setD 2)) (seqS (MM.bind (iterA (var 0)) (forD (setT [3, 4, 5]) b_do_meet_1)) (retS (MM.pure (.bool true)))))
def m_do_meet : List D → Res D := runF 6 2 b_do_meet
theorem sc_do_meet : FnScope ["forms", "names", "found", "name", "weight", "wish"] ["forms", "names"] (defScope (top 33)) := ⟨rfl, rfl, rfl, by decide +kernel, rfl, by decide +kernel, by decide +kernel⟩
theorem ok_do_meet (Y : Fx K mg) (Z : Zx Y base T) (hT : T.td = tdO P w) : FnOk P w K mg base (L2N.CX P w) 2 Y.d_do_meet.f Y.d_do_meet.fd ["forms", "names"] (spF K T m_do_meet) :=
  have nd := sc_do_meet.nd
  fn_def Y.d_do_meet.F sc_do_meet fun cdv hcd A outer s H E c hr =>
    (ms_seq (ms_set (i := 2) nd rfl (by first | exact Or.inl rfl | exact Or.inr rfl) (me_tup ma_nil)) (ms_seq (ms_for (passes_of rfl) rfl (mi_all (mv 0)) (mg_tupD rfl (mgc 3 nd (mgc 4 nd (mgc 5 nd mgs_nil)))) (ms_one (ms_if (mt_cmp (o_in (hu_of hr)) (mv 3) (mv 1) (by rfl)) (ms_seq (ms_set (i := 2) nd rfl (by first | exact Or.inl rfl | exact Or.inr rfl) (me_call (ok_both_of Y Z hT) (hr.mono (by decide)) rfl Y.d_both_of.g Y.d_both_of.F.kp Y.d_both_of.b (L2N.takes_of rfl rfl rfl rfl) (ma_cons (mv 2) (ma_cons (mv 5) ma_nil)))) (ms_one (ms_if (mt_cmp o_is (mv 2) me_non (nomark _)) (ms_one (ms_ret me_bl)) ms_nil))) ms_nil))) (ms_one (ms_ret me_bl))))
def c_weighs_1 : MM D := (var 3)
def b_weighs : MM Fl := (retS (callE dSum (consA (MM.bind (iterA (var 0)) (compL [2, 3, 4] (setT [2, 3, 4]) (opT dIn (var 2) (var 1)) c_weighs_1)) (MM.pure []))))
def m_weighs : List D → Res D := runF 5 2 b_weighs
theorem sc_weighs : FnScope ["forms", "names", "name", "weight", "wish"] ["forms", "names"] (defScope (top 34)) := ⟨rfl, rfl, rfl, by decide +kernel, rfl, by decide +kernel, by decide +kernel⟩
theorem ok_weighs (Y : Fx K mg) (Z : Zx Y base T) (hT : T.td = tdO P w) : FnOk P w K mg base (L2N.CX P w) 1 Y.d_weighs.f Y.d_weighs.fd ["forms", "names"] (spF K T m_weighs) :=
  have nd := sc_weighs.nd
  fn_def Y.d_weighs.F sc_weighs fun cdv hcd A outer s H E c hr =>
    (ms_one (ms_ret (me_callB (b_sum rfl) rfl Y.n_sum bt_sum (ma_cons (me_lc rfl nd (mi_all (mv 0)) (blk_of [("name", 2), ("weight", 3), ("wish", 4)] rfl) rfl (fun c s H C cl fp => (mg_tupD rfl (mgc 2 nd (mgc 3 nd (mgc 4 nd mgs_nil))))) (fun c s H C cl fp => (mts_one (mt_cmp (o_in (hu_of hr)) (mv 2) (mv 1) (by rfl)))) (fun c s H C cl fp => (mv 3))) ma_nil))))
def b_is_melt : MM Fl := (retS (andV (op2 dLe (callE m_weighs (consA (var 1) (consA (var 2) (MM.pure [])))) (var 0)) (callE m_do_meet (consA (var 1) (consA (var 2) (MM.pure []))))))
def m_is_melt : List D → Res D := runF 3 3 b_is_melt
theorem sc_is_melt : FnScope ["room", "forms", "names"] ["room", "forms", "names"] (defScope (top 35)) := ⟨rfl, rfl, rfl, by decide +kernel, rfl, by decide +kernel, by decide +kernel⟩
theorem ok_is_melt (Y : Fx K mg) (Z : Zx Y base T) (hT : T.td = tdO P w) : FnOk P w K mg base (L2N.CX P w) 3 Y.d_is_melt.f Y.d_is_melt.fd ["room", "forms", "names"] (spF K T m_is_melt) :=
  have nd := sc_is_melt.nd
  fn_def Y.d_is_melt.F sc_is_melt fun cdv hcd A outer s H E c hr =>
    (ms_one (ms_ret (me_and (me_cmp o_le (me_call (ok_weighs Y Z hT) (hr.mono (by decide)) rfl Y.d_weighs.g Y.d_weighs.F.kp Y.d_weighs.b (L2N.takes_of rfl rfl rfl rfl) (ma_cons (mv 1) (ma_cons (mv 2) ma_nil))) (mv 0) (nomark _)) (me_one (me_call (ok_do_meet Y Z hT) (hr.mono (by decide)) rfl Y.d_do_meet.g Y.d_do_meet.F.kp Y.d_do_meet.b (L2N.takes_of rfl rfl rfl rfl) (ma_cons (mv 1) (ma_cons (mv 2) ma_nil)))))))
def c_Grouper_best_1 (r : Sto → List D → SRes) : MM D := (var 9)
def b_Grouper_best_1 (r : Sto → List D → SRes) : MM Fl := (ifS (tst (callE m_is_melt (consA (attrE "Grouper" "room" (var 0)) (consA (attrE "Grouper" "forms" (var 0)) (consA (op2 dAdd (MM.bind (consA (var 3) (MM.pure [])) fun xs => lift (mkT xs)) (var 6)) (MM.pure [])))))) (seqS (asgS (methE "Grouper" "best" r (var 0) (consA (callE dTuple (consA (MM.bind (iterA (var 4)) (compL [9] (setD 9) (opTM (inM true) (var 9) (var 6)) (c_Grouper_best_1 r))) (MM.pure []))) (MM.pure []))) (setD 7)) (ifS (opT dIsNot (var 7) (MM.pure .none)) (seqS (asgS (op2 dAdd (MM.bind (consA (op2 dAdd (MM.bind (consA (var 3) (MM.pure [])) fun xs => lift (mkT xs)) (var 6)) (MM.pure [])) fun xs => lift (mkL xs)) (var 7)) (setD 8)) (asgS (ifE (orT (opT dIs (var 2) (MM.pure .none)) (opT dLtG (MM.bind (consA (callE dLen (consA (var 8) (MM.pure []))) (consA (var 8) (MM.pure []))) fun xs => lift (mkT xs)) (MM.bind (consA (callE dLen (consA (var 2) (MM.pure []))) (consA (var 2) (MM.pure []))) fun xs => lift (mkT xs)))) (var 8) (var 2)) (setD 2))) (MM.pure .nx))) (MM.pure .nx))
def b_Grouper_best_2 (r : Sto → List D → SRes) : MM Fl := (MM.bind (iterA (callE (m_subsets 14) (consA (var 4) (consA (var 5) (MM.pure []))))) (forD (setD 6) (b_Grouper_best_1 r)))
def b_Grouper_best (r : Sto → List D → SRes) : MM Fl := (seqS (ifS (opT dEq (var 1) (MM.bind (MM.pure []) fun xs => lift (mkT xs))) (retS (MM.bind (MM.pure []) fun xs => lift (mkL xs))) (MM.pure .nx)) (seqS (ifS (opTM (inM true) (var 1) (attrE "Grouper" "known" (var 0))) (seqS (parL [2, 3, 4] (consD (MM.pure .none) (consD (op2M ixM (var 1) (MM.pure (.int 0))) (consD (sliceE (var 1) (partS (MM.pure (.int 1))) partN) (MM.pure []))))) (seqS (MM.bind (MM.bind (consA (op2 dAdd (callE dLen (consA (var 4) (MM.pure []))) (MM.pure (.int 1))) (MM.pure [])) fun ds => lift (range1 ds)) (forD (setD 5) (b_Grouper_best_2 r))) (tputS (var 2) (attrE "Grouper" "known" (var 0)) (var 1)))) (MM.pure .nx)) (retS (op2M ixM (attrE "Grouper" "known" (var 0)) (var 1)))))
def m_Grouper_best : Nat → Sto → List D → SRes
  | 0 => fun _ _ => .stuck
  | n + 1 => runS 10 2 (b_Grouper_best (m_Grouper_best n))
theorem sc_Grouper_best : FnScope ["self", "names", "found", "first", "others", "many", "some", "rest", "one", "name"] ["self", "names"] (defScope (inn (top 37) 1)) := ⟨rfl, rfl, rfl, by decide +kernel, rfl, by decide +kernel, by decide +kernel⟩
theorem ok_Grouper_best (Y : Fx K mg) (Z : Zx Y base T) (hT : T.td = tdO P w) : ∀ n : Nat, FnOk P w K mg base (L2N.CX P w) (n + 16) Y.d_Grouper_best.f Y.d_Grouper_best.fd ["self", "names"] (spS K T (m_Grouper_best n))
  | 0 => fn_outS
  | n + 1 =>
    have ih := ok_Grouper_best Y Z hT n
    have nd := sc_Grouper_best.nd
    fn_defS Y.d_Grouper_best.F sc_Grouper_best fun cdv hcd A outer s H E c hr =>
      (ms_seq (ms_if (mt_cmp (o_eq hr.units) (mv 1) (me_tup ma_nil) (nomark _)) (ms_one (ms_ret (me_lst ma_nil))) ms_nil) (ms_seq (ms_if (mt_cmpM (o_notInM (hu9 hr) hT) (mv 1) (me_attr Y.k_Grouper Y.na_Grouper_known (mv 0)) (by rfl)) (ms_seq (ms_parL3 (i := 2) (j := 3) (k := 4) rfl nd rfl rfl rfl (by decide) (by decide) (by decide) rfl rfl rfl (ml_dat me_non (ml_dat (me_ixM (hu9 hr) hT (mv 1) me_int (fun _ _ => rfl)) (ml_dat (me_slice (mv 1) (mo_some me_int) mo_none) ml_nil))) rfl) (ms_seq (ms_for (passes_of rfl) rfl (mi_range1 rfl Y.n_range (ma_cons (me_op o_add (me_callB b_len rfl Y.n_len bt_len (ma_cons (mv 4) ma_nil)) me_int) ma_nil)) (mgn 5 nd) (ms_one (ms_for (passes_of rfl) rfl (mi_all (me_call (ok_subsets Y Z hT 14) (hr.mono (by omega)) rfl Y.d_subsets.g Y.d_subsets.F.kp Y.d_subsets.b (L2N.takes_of rfl rfl rfl rfl) (ma_cons (mv 4) (ma_cons (mv 5) ma_nil)))) (mgn 6 nd) (ms_one (ms_if (mt_val (me_call (ok_is_melt Y Z hT) (hr.mono (by omega)) rfl Y.d_is_melt.g Y.d_is_melt.F.kp Y.d_is_melt.b (L2N.takes_of rfl rfl rfl rfl) (ma_cons (me_attr Y.k_Grouper Y.na_Grouper_room (mv 0)) (ma_cons (me_attr Y.k_Grouper Y.na_Grouper_forms (mv 0)) (ma_cons (me_op o_add (me_tup (ma_cons (mv 3) ma_nil)) (mv 6)) ma_nil))))) (ms_seq (ms_set (i := 7) nd rfl (by first | exact Or.inl rfl | exact Or.inr rfl) (me_meth (mv 0) Y.k_Grouper Y.mt_Grouper_best ih (hr.mono (by omega)) Y.d_Grouper_best.b (L2N.takes_of rfl rfl rfl rfl) (ma_cons (me_callTy b_tuple rfl Y.n_tuple bt_tuple (ma_cons (me_lc rfl nd (mi_all (mv 4)) (blk_of [("name", 9)] rfl) rfl (fun c s H C cl fp => (mgn 9 nd)) (fun c s H C cl fp => (mts_one (mt_cmpM (o_notInM (hu9 hr) hT) (mv 9) (mv 6) (by rfl)))) (fun c s H C cl fp => (mv 9))) ma_nil)) ma_nil))) (ms_one (ms_if (mt_cmp o_isNot (mv 7) me_non (nomark _)) (ms_seq (ms_set (i := 8) nd rfl (by first | exact Or.inl rfl | exact Or.inr rfl) (me_op o_add (me_lst (ma_cons (me_op o_add (me_tup (ma_cons (mv 3) ma_nil)) (mv 6)) ma_nil)) (mv 7))) (ms_one (ms_set (i := 2) nd rfl (by first | exact Or.inl rfl | exact Or.inr rfl) (me_if (PW.pt (mw_or (mt_cmp o_is (mv 2) me_non (nomark _)) (mw_or1 (mt_cmp (o_ltG hr.units) (me_tup (ma_cons (me_callB b_len rfl Y.n_len bt_len (ma_cons (mv 8) ma_nil)) (ma_cons (mv 8) ma_nil))) (me_tup (ma_cons (me_callB b_len rfl Y.n_len bt_len (ma_cons (mv 2) ma_nil)) (ma_cons (mv 2) ma_nil))) (nomark _))))) (mv 8) (mv 2))))) ms_nil))) ms_nil))))) (ms_one (ms_tput (hu9 hr) hT (me_attr Y.k_Grouper Y.na_Grouper_known (mv 0)) (mv 1) (mv 2))))) ms_nil) (ms_one (ms_ret (me_ixM (hu9 hr) hT (me_attr Y.k_Grouper Y.na_Grouper_known (mv 0)) (mv 1) (fun _ _ => rfl))))))
def b_Grouper___init__ : MM Fl := (seqS (fldS "Grouper" "room" (var 1) (var 0)) (seqS (fldS "Grouper" "forms" (var 2) (var 0)) (fldS "Grouper" "known" (newC (.tdc [])) (var 0))))
def m_Grouper___init__ : Sto → List D → SRes := runS 3 3 b_Grouper___init__
theorem sc_Grouper___init__ : FnScope ["self", "room", "forms"] ["self", "room", "forms"] (defScope (inn (top 37) 0)) := ⟨rfl, rfl, rfl, by decide +kernel, rfl, by decide +kernel, by decide +kernel⟩
theorem ok_Grouper___init__ (Y : Fx K mg) (Z : Zx Y base T) (hT : T.td = tdO P w) : FnOk P w K mg base (L2N.CX P w) 1 Y.d_Grouper___init__.f Y.d_Grouper___init__.fd ["self", "room", "forms"] (spS K T m_Grouper___init__) :=
  have nd := sc_Grouper___init__.nd
  fn_defS Y.d_Grouper___init__.F sc_Grouper___init__ fun cdv hcd A outer s H E c hr =>
    (ms_seq (ms_fld Y.k_Grouper Y.na_Grouper_room (mv 0) (mv 1)) (ms_seq (ms_fld Y.k_Grouper Y.na_Grouper_forms (mv 0) (mv 2)) (ms_one (ms_fld Y.k_Grouper Y.na_Grouper_known (mv 0) (me_newTdc hT)))))
def c_fewest_1 : MM D := (op2M ixM (var 2) (MM.pure (.int 0)))
def b_fewest : MM Fl := (seqS (exprS (callE m_need_room (consA (var 0) (MM.pure [])))) (seqS (exprS (callE m_need_forms (consA (var 1) (MM.pure [])))) (retS (methE "Grouper" "best" (m_Grouper_best 14) (makeE "Grouper" m_Grouper___init__ (consA (var 0) (consA (var 1) (MM.pure [])))) (consA (callE dTuple (consA (callE dSorted (consA (MM.bind (iterA (var 1)) (compL [2] (setD 2) (MM.pure true) c_fewest_1)) (MM.pure []))) (MM.pure []))) (MM.pure []))))))
def m_fewest : List D → Res D := runP 3 2 b_fewest
theorem sc_fewest : FnScope ["room", "forms", "form"] ["room", "forms"] (defScope (top 38)) := ⟨rfl, rfl, rfl, by decide +kernel, rfl, by decide +kernel, by decide +kernel⟩
theorem ok_fewest (Y : Fx K mg) (Z : Zx Y base T) (hT : T.td = tdO P w) : FnOk P w K mg base (L2N.CX P w) 31 Y.d_fewest.f Y.d_fewest.fd ["room", "forms"] (spF K T m_fewest) :=
  have nd := sc_fewest.nd
  fn_defP Y.d_fewest.F sc_fewest fun cdv hcd A outer s H E c hr =>
    (ms_seq (ms_expr (me_call (ok_need_room Y Z hT) (hr.mono (by decide)) rfl Y.d_need_room.g Y.d_need_room.F.kp Y.d_need_room.b (L2N.takes_of rfl rfl rfl rfl) (ma_cons (mv 0) ma_nil))) (ms_seq (ms_expr (me_call (ok_need_forms Y Z hT) (hr.mono (by decide)) rfl Y.d_need_forms.g Y.d_need_forms.F.kp Y.d_need_forms.b (L2N.takes_of rfl rfl rfl rfl) (ma_cons (mv 1) ma_nil))) (ms_one (ms_ret (me_meth (me_make Y.mk_Grouper (ok_Grouper___init__ Y Z hT) (hr.mono (by decide)) rfl Y.g_Grouper Y.d_Grouper___init__.b (ma_cons (mv 0) (ma_cons (mv 1) ma_nil))) Y.k_Grouper Y.mt_Grouper_best (ok_Grouper_best Y Z hT 14) (hr.mono (by decide)) Y.d_Grouper_best.b (L2N.takes_of rfl rfl rfl rfl) (ma_cons (me_callTy b_tuple rfl Y.n_tuple bt_tuple (ma_cons (me_callB (b_sorted rfl hr.units) rfl Y.n_sorted bt_sorted (ma_cons (me_lc rfl nd (mi_all (mv 1)) (blk_of [("form", 2)] rfl) rfl (fun c s H C cl fp => (mgn 2 nd)) (fun c s H C cl fp => mts_nil) (fun c s H C cl fp => (me_ixM (hu9 hr) hT (mv 2) me_int (fun _ _ => rfl)))) ma_nil)) ma_nil)) ma_nil))))))
def c_parted_1 : MM D := (callE m_do_meet (consA (var 0) (consA (var 2) (MM.pure []))))
def b_parted : MM Fl := (retS (notV (callE dAny (consA (MM.bind (iterA (callE (m_subsets 14) (consA (var 1) (consA (MM.pure (.int 2)) (MM.pure []))))) (compL [2] (setD 2) (MM.pure true) c_parted_1)) (MM.pure [])))))
def m_parted : List D → Res D := runF 3 2 b_parted
theorem sc_parted : FnScope ["forms", "names", "pair"] ["forms", "names"] (defScope (top 39)) := ⟨rfl, rfl, rfl, by decide +kernel, rfl, by decide +kernel, by decide +kernel⟩
theorem ok_parted (Y : Fx K mg) (Z : Zx Y base T) (hT : T.td = tdO P w) : FnOk P w K mg base (L2N.CX P w) 16 Y.d_parted.f Y.d_parted.fd ["forms", "names"] (spF K T m_parted) :=
  have nd := sc_parted.nd
  fn_def Y.d_parted.F sc_parted fun cdv hcd A outer s H E c hr =>
    (ms_one (ms_ret (me_not (me_callB (b_any rfl) rfl Y.n_any bt_any (ma_cons (me_lc rfl nd (mi_all (me_call (ok_subsets Y Z hT 14) (hr.mono (by decide)) rfl Y.d_subsets.g Y.d_subsets.F.kp Y.d_subsets.b (L2N.takes_of rfl rfl rfl rfl) (ma_cons (mv 1) (ma_cons me_int ma_nil)))) (blk_of [("pair", 2)] rfl) rfl (fun c s H C cl fp => (mgn 2 nd)) (fun c s H C cl fp => mts_nil) (fun c s H C cl fp => (me_call (ok_do_meet Y Z hT) (hr.mono (by decide)) rfl Y.d_do_meet.g Y.d_do_meet.F.kp Y.d_do_meet.b takes0 (ma_cons (mv 0) (ma_cons (mv 2) ma_nil))))) ma_nil)))))
def c_most_apart_1 : MM D := (op2 dIx (var 4) (MM.pure (.int 0)))
def b_most_apart_1 : MM Fl := (ifS (tst (callE m_parted (consA (var 0) (consA (var 3) (MM.pure []))))) (retS (var 3)) (MM.pure .nx))
def b_most_apart_2 : MM Fl := (MM.bind (iterA (callE (m_subsets 14) (consA (var 1) (consA (var 2) (MM.pure []))))) (forD (setD 3) b_most_apart_1))
def b_most_apart : MM Fl := (seqS (asgS (callE dSorted (consA (MM.bind (iterA (var 0)) (compL [4] (setD 4) (MM.pure true) c_most_apart_1)) (MM.pure []))) (setD 1)) (seqS (MM.bind (MM.bind (consA (callE dLen (consA (var 1) (MM.pure []))) (consA (MM.pure (.int 0)) (consA (negE (MM.pure (.int 1))) (MM.pure [])))) fun ds => lift (range3 ds)) (forD (setD 2) b_most_apart_2)) (retS (MM.bind (MM.pure []) fun xs => lift (mkT xs)))))
def m_most_apart : List D → Res D := runF 5 1 b_most_apart
theorem sc_most_apart : FnScope ["forms", "names", "many", "some", "form"] ["forms"] (defScope (top 40)) := ⟨rfl, rfl, rfl, by decide +kernel, rfl, by decide +kernel, by decide +kernel⟩
theorem ok_most_apart (Y : Fx K mg) (Z : Zx Y base T) (hT : T.td = tdO P w) : FnOk P w K mg base (L2N.CX P w) 17 Y.d_most_apart.f Y.d_most_apart.fd ["forms"] (spF K T m_most_apart) :=
  have nd := sc_most_apart.nd
  fn_def Y.d_most_apart.F sc_most_apart fun cdv hcd A outer s H E c hr =>
    (ms_seq (ms_set (i := 1) nd rfl (by first | exact Or.inl rfl | exact Or.inr rfl) (me_callB (b_sorted rfl hr.units) rfl Y.n_sorted bt_sorted (ma_cons (me_lc rfl nd (mi_all (mv 0)) (blk_of [("form", 4)] rfl) rfl (fun c s H C cl fp => (mgn 4 nd)) (fun c s H C cl fp => mts_nil) (fun c s H C cl fp => (me_ix (hu_of hr) (mv 4) me_int (fun _ _ => rfl)))) ma_nil))) (ms_seq (ms_for (passes_of rfl) rfl (mi_range3 rfl Y.n_range (ma_cons (me_callB b_len rfl Y.n_len bt_len (ma_cons (mv 1) ma_nil)) (ma_cons me_int (ma_cons (me_neg me_int) ma_nil)))) (mgn 2 nd) (ms_one (ms_for (passes_of rfl) rfl (mi_all (me_call (ok_subsets Y Z hT 14) (hr.mono (by decide)) rfl Y.d_subsets.g Y.d_subsets.F.kp Y.d_subsets.b (L2N.takes_of rfl rfl rfl rfl) (ma_cons (mv 1) (ma_cons (mv 2) ma_nil)))) (mgn 3 nd) (ms_one (ms_if (mt_val (me_call (ok_parted Y Z hT) (hr.mono (by decide)) rfl Y.d_parted.g Y.d_parted.F.kp Y.d_parted.b (L2N.takes_of rfl rfl rfl rfl) (ma_cons (mv 0) (ma_cons (mv 3) ma_nil)))) (ms_one (ms_ret (mv 3))) ms_nil))))) (ms_one (ms_ret (me_tup ma_nil)))))
def b_apart : MM Fl := (seqS (exprS (callE m_need_forms (consA (var 0) (MM.pure [])))) (retS (callE m_most_apart (consA (var 0) (MM.pure [])))))
def m_apart : List D → Res D := runF 1 1 b_apart
theorem sc_apart : FnScope ["forms"] ["forms"] (defScope (top 41)) := ⟨rfl, rfl, rfl, by decide +kernel, rfl, by decide +kernel, by decide +kernel⟩
theorem ok_apart (Y : Fx K mg) (Z : Zx Y base T) (hT : T.td = tdO P w) : FnOk P w K mg base (L2N.CX P w) 18 Y.d_apart.f Y.d_apart.fd ["forms"] (spF K T m_apart) :=
  have nd := sc_apart.nd
  fn_def Y.d_apart.F sc_apart fun cdv hcd A outer s H E c hr =>
    (ms_seq (ms_expr (me_call (ok_need_forms Y Z hT) (hr.mono (by decide)) rfl Y.d_need_forms.g Y.d_need_forms.F.kp Y.d_need_forms.b (L2N.takes_of rfl rfl rfl rfl) (ma_cons (mv 0) ma_nil))) (ms_one (ms_ret (me_call (ok_most_apart Y Z hT) (hr.mono (by decide)) rfl Y.d_most_apart.g Y.d_most_apart.F.kp Y.d_most_apart.b (L2N.takes_of rfl rfl rfl rfl) (ma_cons (mv 0) ma_nil)))))
def c_at_least_1 : MM D := (op2 dIx (var 3) (MM.pure (.int 1)))
def b_at_least : MM Fl := (seqS (exprS (callE m_need_room (consA (var 0) (MM.pure [])))) (seqS (exprS (callE m_need_forms (consA (var 1) (MM.pure [])))) (seqS (asgS (callE dSum (consA (MM.bind (iterA (var 1)) (compL [3] (setD 3) (MM.pure true) c_at_least_1)) (MM.pure []))) (setD 2)) (retS (callE dMax (consA (callE dLen (consA (callE m_most_apart (consA (var 1) (MM.pure []))) (MM.pure []))) (consA (op2 dFdiv (op2 dSub (op2 dAdd (var 2) (var 0)) (MM.pure (.int 1))) (var 0)) (MM.pure []))))))))
def m_at_least : List D → Res D := runF 4 2 b_at_least
theorem sc_at_least : FnScope ["room", "forms", "total", "form"] ["room", "forms"] (defScope (top 42)) := ⟨rfl, rfl, rfl, by decide +kernel, rfl, by decide +kernel, by decide +kernel⟩
theorem ok_at_least (Y : Fx K mg) (Z : Zx Y base T) (hT : T.td = tdO P w) : FnOk P w K mg base (L2N.CX P w) 18 Y.d_at_least.f Y.d_at_least.fd ["room", "forms"] (spF K T m_at_least) :=
  have nd := sc_at_least.nd
  fn_def Y.d_at_least.F sc_at_least fun cdv hcd A outer s H E c hr =>
    (ms_seq (ms_expr (me_call (ok_need_room Y Z hT) (hr.mono (by decide)) rfl Y.d_need_room.g Y.d_need_room.F.kp Y.d_need_room.b (L2N.takes_of rfl rfl rfl rfl) (ma_cons (mv 0) ma_nil))) (ms_seq (ms_expr (me_call (ok_need_forms Y Z hT) (hr.mono (by decide)) rfl Y.d_need_forms.g Y.d_need_forms.F.kp Y.d_need_forms.b (L2N.takes_of rfl rfl rfl rfl) (ma_cons (mv 1) ma_nil))) (ms_seq (ms_set (i := 2) nd rfl (by first | exact Or.inl rfl | exact Or.inr rfl) (me_callB (b_sum rfl) rfl Y.n_sum bt_sum (ma_cons (me_lc rfl nd (mi_all (mv 1)) (blk_of [("form", 3)] rfl) rfl (fun c s H C cl fp => (mgn 3 nd)) (fun c s H C cl fp => mts_nil) (fun c s H C cl fp => (me_ix (hu_of hr) (mv 3) me_int (fun _ _ => rfl)))) ma_nil))) (ms_one (ms_ret (me_callB (b_max rfl) rfl Y.n_max bt_max (ma_cons (me_callB b_len rfl Y.n_len bt_len (ma_cons (me_call (ok_most_apart Y Z hT) (hr.mono (by decide)) rfl Y.d_most_apart.g Y.d_most_apart.F.kp Y.d_most_apart.b (L2N.takes_of rfl rfl rfl rfl) (ma_cons (mv 1) ma_nil)) ma_nil)) (ma_cons (me_op o_fdiv (me_op o_sub (me_op o_add (mv 2) (mv 0)) me_int) (mv 0)) ma_nil))))))))
def b__law_one_melt_1 : MM Fl := (seqS (asgS (ogetE 3 (var 8) (MM.bind (consA (MM.pure (.int 0)) (consA (MM.pure (.int 1000)) (MM.pure []))) fun xs => lift (mkT xs))) (setD 11)) (putS 3 (MM.bind (consA (callE dMax (consA (op2 dIx (var 11) (MM.pure (.int 0))) (consA (var 9) (MM.pure [])))) (consA (callE dMin (consA (op2 dIx (var 11) (MM.pure (.int 1))) (consA (var 10) (MM.pure [])))) (MM.pure []))) fun xs => lift (mkT xs)) (var 8)))
def b__law_one_melt_2 : MM Fl := (ifS (opT dIn (var 5) (var 2)) (seqS (asgS (op2 dAdd (var 4) (var 6)) (setD 4)) (MM.bind (iterA (var 7)) (forD (setT [8, 9, 10]) b__law_one_melt_1))) (MM.pure .nx))
def c__law_one_melt_1 : MM D := (var 8)
def b__law_one_melt : MM Fl := (seqS (parL [3, 4] (consS (MM.pure (.od [])) (consD (MM.pure (.int 0)) (MM.pure [])))) (seqS (MM.bind (iterA (var 1)) (forD (setT [5, 6, 7]) b__law_one_melt_2)) (fun ρ => (seqS (asgS (MM.bind (iterA (var 3)) (compL [8] (setD 8) (opT dGt (op2 dIx (op2 dIx (var 3) (var 8)) (MM.pure (.int 0))) (op2 dIx (op2 dIx (var 3) (var 8)) (MM.pure (.int 1)))) c__law_one_melt_1)) (setD 12)) (retS (andV (op2 dLe (var 4) (var 0)) (op2 dEq (var 12) (MM.bind (MM.pure []) fun xs => lift (mkL xs)))))) (frzS 3 ρ))))
def m__law_one_melt : List D → Res D := runF 13 3 b__law_one_melt
theorem sc__law_one_melt : FnScope ["_law_room", "_law_forms", "_law_names", "_law_rows", "_law_total", "_law_name", "_law_weight", "_law_wish", "_law_element", "_law_low", "_law_high", "_law_old", "_law_shut"] ["_law_room", "_law_forms", "_law_names"] (defScope (top 53)) := ⟨rfl, rfl, rfl, by decide +kernel, rfl, by decide +kernel, by decide +kernel⟩
theorem ok__law_one_melt (Y : Fx K mg) (Z : Zx Y base T) (hT : T.td = tdO P w) : FnOk P w K mg base (L2N.CX P w) 1 Y.d__law_one_melt.f Y.d__law_one_melt.fd ["_law_room", "_law_forms", "_law_names"] (spF K T m__law_one_melt) :=
  have nd := sc__law_one_melt.nd
  fn_def Y.d__law_one_melt.F sc__law_one_melt fun cdv hcd A outer s H E c hr =>
    (ms_seq (ms_unpk rfl nd (pnc 3 (pnc 4 PNs.nil)) (ml_own mo_newD fun c => (ml_dat me_int ml_nil))) (ms_seq (ms_for (passes_of rfl) rfl (mi_all (mv 1)) (mg_tupD rfl (mgc 5 nd (mgc 6 nd (mgc 7 nd mgs_nil)))) (ms_one (ms_if (mt_cmp (o_in (hu_of hr)) (mv 5) (mv 2) (by rfl)) (ms_seq (ms_set (i := 4) nd rfl (by first | exact Or.inl rfl | exact Or.inr rfl) (me_op o_add (mv 4) (mv 6))) (ms_one (ms_for (passes_of rfl) rfl (mi_all (mv 7)) (mg_tupD rfl (mgc 8 nd (mgc 9 nd (mgc 10 nd mgs_nil)))) (ms_seq (ms_set (i := 11) nd rfl (by first | exact Or.inl rfl | exact Or.inr rfl) (me_oget (i := 3) (hu_of hr) rfl (by first | exact Or.inl rfl | exact Or.inr (Or.inl rfl) | exact Or.inr (Or.inr rfl)) (mv 8) (me_tup (ma_cons me_int (ma_cons me_int ma_nil))) ⟨rfl, rfl, rfl, rfl⟩)) (ms_one (ms_put (i := 3) (hu_of hr) rfl (by first | exact Or.inl rfl | exact Or.inr (Or.inl rfl) | exact Or.inr (Or.inr rfl)) (mv 8) (me_tup (ma_cons (me_callB (b_max rfl) rfl Y.n_max bt_max (ma_cons (me_ix (hu_of hr) (mv 11) me_int (fun _ _ => rfl)) (ma_cons (mv 9) ma_nil))) (ma_cons (me_callB (b_min rfl) rfl Y.n_min bt_min (ma_cons (me_ix (hu_of hr) (mv 11) me_int (fun _ _ => rfl)) (ma_cons (mv 10) ma_nil))) ma_nil))))))))) ms_nil))) (ms_freeze 3 (ms_seq (ms_setLc (i := 12) rfl nd rfl rfl (sw_true rfl rfl rfl rfl) (mi_all (mv 3)) (blk_of [("_law_element", 8)] rfl) rfl (fun c s H C cl fp => (mgn 8 nd)) (fun c s H C cl fp => (mts_one (mt_cmp o_gt (me_ix (hu_of hr) (me_ix (hu_of hr) (mv 3) (mv 8) (fun _ _ => rfl)) me_int (fun _ _ => rfl)) (me_ix (hu_of hr) (me_ix (hu_of hr) (mv 3) (mv 8) (fun _ _ => rfl)) me_int (fun _ _ => rfl)) (nomark _)))) (fun c s H C cl fp => (mv 8))) (ms_one (ms_ret (me_and (me_cmp o_le (mv 4) (mv 0) (nomark _)) (me_one (me_cmp (o_eq hr.units) (mv 12) (me_lst ma_nil) (nomark _))))))))))
def c_need_names_1 : MM D := (op2 dIx (var 3) (MM.pure (.int 0)))
def c_need_names_2 : MM D := (andV (isiE isStr (var 4)) (op2 dIn (var 4) (var 2)))
def b_need_names : MM Fl := (seqS (asgS (MM.bind (iterA (var 1)) (compL [3] (setD 3) (MM.pure true) c_need_names_1)) (setD 2)) (seqS (ifS (orT (notT (tst (isiE isLst (var 0)))) (notT (tst (callE dAll (consA (MM.bind (iterA (var 0)) (compL [4] (setD 4) (MM.pure true) c_need_names_2)) (MM.pure [])))))) (raiseS "BadCharge") (MM.pure .nx)) (ifS (opT dLt (lenSetE (var 0)) (callE dLen (consA (var 0) (MM.pure [])))) (raiseS "BadCharge") (MM.pure .nx))))
def m_need_names : List D → Res D := runF 5 2 b_need_names
theorem sc_need_names : FnScope ["names", "rows", "every", "row", "name"] ["names", "rows"] (defScope (top 27)) := ⟨rfl, rfl, rfl, by decide +kernel, rfl, by decide +kernel, by decide +kernel⟩
theorem ok_need_names (Y : Fx K mg) (Z : Zx Y base T) (hT : T.td = tdO P w) : FnOk P w K mg base (L2N.CX P w) 1 Y.d_need_names.f Y.d_need_names.fd ["names", "rows"] (spF K T m_need_names) :=
  have nd := sc_need_names.nd
  fn_def Y.d_need_names.F sc_need_names fun cdv hcd A outer s H E c hr =>
    (ms_seq (ms_set (i := 2) nd rfl (by first | exact Or.inl rfl | exact Or.inr rfl) (me_lc rfl nd (mi_all (mv 1)) (blk_of [("row", 3)] rfl) rfl (fun c s H C cl fp => (mgn 3 nd)) (fun c s H C cl fp => mts_nil) (fun c s H C cl fp => (me_ix (hu_of hr) (mv 3) me_int (fun _ _ => rfl))))) (ms_seq (ms_if (PW.pt (mw_or (mt_not (mt_val (me_isi kit_lst rfl Y.n_isinstance rfl Y.n_list bt_list (mv 0) bt_isinstance))) (mw_or1 (mt_not (mt_val (me_callB (b_all rfl) rfl Y.n_all bt_all (ma_cons (me_lc rfl nd (mi_all (mv 0)) (blk_of [("name", 4)] rfl) rfl (fun c s H C cl fp => (mgn 4 nd)) (fun c s H C cl fp => mts_nil) (fun c s H C cl fp => (me_and (me_isi kit_str rfl Y.n_isinstance rfl Y.n_str bt_str (mv 4) bt_isinstance) (me_one (me_cmp (o_in (hu_of hr)) (mv 4) (mv 2) (by rfl)))))) ma_nil))))))) (ms_one (ms_raise rfl (L2N.takes_of rfl rfl rfl rfl) (Z.U.x "BadCharge" (by decide +kernel)).o (Z.U.g "BadCharge" (by decide +kernel)) rfl)) ms_nil) (ms_one (ms_if (mt_cmp o_lt (me_lenset rfl rfl Y.n_len rfl Y.n_set (mv 0)) (me_callB b_len rfl Y.n_len bt_len (ma_cons (mv 0) ma_nil)) (nomark _)) (ms_one (ms_raise rfl (L2N.takes_of rfl rfl rfl rfl) (Z.U.x "BadCharge" (by decide +kernel)).o (Z.U.g "BadCharge" (by decide +kernel)) rfl)) ms_nil))))
def b_may_share : MM Fl := (seqS (exprS (callE m_need_room (consA (var 0) (MM.pure [])))) (seqS (exprS (callE m_need_forms (consA (var 1) (MM.pure [])))) (seqS (exprS (callE m_need_names (consA (var 2) (consA (var 1) (MM.pure []))))) (seqS (ifS (opT dEq (var 2) (MM.bind (MM.pure []) fun xs => lift (mkL xs))) (raiseS "BadCharge") (MM.pure .nx)) (retS (callE m_is_melt (consA (var 0) (consA (var 1) (consA (var 2) (MM.pure []))))))))))
def m_may_share : List D → Res D := runF 3 3 b_may_share
theorem sc_may_share : FnScope ["room", "forms", "names"] ["room", "forms", "names"] (defScope (top 36)) := ⟨rfl, rfl, rfl, by decide +kernel, rfl, by decide +kernel, by decide +kernel⟩
theorem ok_may_share (Y : Fx K mg) (Z : Zx Y base T) (hT : T.td = tdO P w) : FnOk P w K mg base (L2N.CX P w) 6 Y.d_may_share.f Y.d_may_share.fd ["room", "forms", "names"] (spF K T m_may_share) :=
  have nd := sc_may_share.nd
  fn_def Y.d_may_share.F sc_may_share fun cdv hcd A outer s H E c hr =>
    (ms_seq (ms_expr (me_call (ok_need_room Y Z hT) (hr.mono (by decide)) rfl Y.d_need_room.g Y.d_need_room.F.kp Y.d_need_room.b (L2N.takes_of rfl rfl rfl rfl) (ma_cons (mv 0) ma_nil))) (ms_seq (ms_expr (me_call (ok_need_forms Y Z hT) (hr.mono (by decide)) rfl Y.d_need_forms.g Y.d_need_forms.F.kp Y.d_need_forms.b (L2N.takes_of rfl rfl rfl rfl) (ma_cons (mv 1) ma_nil))) (ms_seq (ms_expr (me_call (ok_need_names Y Z hT) (hr.mono (by decide)) rfl Y.d_need_names.g Y.d_need_names.F.kp Y.d_need_names.b (L2N.takes_of rfl rfl rfl rfl) (ma_cons (mv 2) (ma_cons (mv 1) ma_nil)))) (ms_seq (ms_if (mt_cmp (o_eq hr.units) (mv 2) (me_lst ma_nil) (nomark _)) (ms_one (ms_raise rfl (L2N.takes_of rfl rfl rfl rfl) (Z.U.x "BadCharge" (by decide +kernel)).o (Z.U.g "BadCharge" (by decide +kernel)) rfl)) ms_nil) (ms_one (ms_ret (me_call (ok_is_melt Y Z hT) (hr.mono (by decide)) rfl Y.d_is_melt.g Y.d_is_melt.F.kp Y.d_is_melt.b (L2N.takes_of rfl rfl rfl rfl) (ma_cons (mv 0) (ma_cons (mv 1) (ma_cons (mv 2) ma_nil))))))))))
def s_law_1 : MM Fl := (parL [2, 3] (consD (op2 dAdd (MM.pure (.int 1)) (callO m__law_roll 1 (consA (MM.pure (.int 20)) (MM.pure [])))) (consD (callO m__law_any_forms 1 (consA (MM.pure (.int 5)) (MM.pure []))) (MM.pure []))))
def c_law_1 : MM D := (op2 dIx (var 15) (MM.pure (.int 0)))
def s_law_2 : MM Fl := (parL [4, 5] (consD (callE dTuple (consA (callE dSorted (consA (MM.bind (iterA (var 3)) (compL [15] (setD 15) (MM.pure true) c_law_1)) (MM.pure []))) (MM.pure []))) (consD (MM.bind (MM.pure []) fun xs => lift (mkT xs)) (MM.pure []))))
def c_law_2 : MM D := (var 16)
def b_law_1 : MM Fl := (ifS (opT dEq (MM.bind (iterA (callE (m__law_tuples 14) (consA (var 8) (consA (MM.pure (.int 2)) (MM.pure []))))) (compL [16] (setD 16) (tst (callE m__law_one_melt (consA (MM.pure (.int 9999)) (consA (var 3) (consA (var 16) (MM.pure [])))))) c_law_2)) (MM.bind (MM.pure []) fun xs => lift (mkL xs))) (appS 7 (var 8)) (MM.pure .nx))
def b_law_2 : MM Fl := (seqS (newO (MM.pure (.ol [])) 7) (seqS (MM.bind (iterA (callE (m__law_tuples 14) (consA (var 4) (consA (var 6) (MM.pure []))))) (forD (setD 8) b_law_1)) (fun ρ => (asgS (ifE (opT dNe (var 7) (MM.bind (MM.pure []) fun xs => lift (mkL xs))) (op2 dIx (var 7) (MM.pure (.int 0))) (var 5)) (setD 5)) (frzS 7 ρ))))
def s_law_3 : MM Fl := (MM.bind (MM.bind (consA (MM.pure (.int 1)) (consA (op2 dAdd (callE dLen (consA (var 4) (MM.pure []))) (MM.pure (.int 1))) (MM.pure []))) fun ds => lift (range2 ds)) (forD (setD 6) b_law_2))
def c_law_3 : MM D := (op2 dIx (var 15) (MM.pure (.int 1)))
def s_law_4 : MM Fl := (asgS (callE dSum (consA (MM.bind (iterA (var 3)) (compL [15] (setD 15) (MM.pure true) c_law_3)) (MM.pure []))) (setD 9))
def s_law_5 : MM Fl := (ifS (orT (opT dNe (callE m_apart (consA (var 3) (MM.pure []))) (var 5)) (opT dNe (callE m_at_least (consA (var 2) (consA (var 3) (MM.pure [])))) (callE dMax (consA (callE dLen (consA (var 5) (MM.pure []))) (consA (negE (op2 dFdiv (negE (var 9)) (var 2))) (MM.pure [])))))) (retS (MM.pure (.bool false))) (MM.pure .nx))
def s_law_6 : MM Fl := (asgS (op2 dIx (var 3) (MM.pure (.int 0))) (setD 10))
def s_law_7 : MM Fl := (asgS (MM.bind (consA (MM.pure .none) (consA (MM.pure (.int 5)) (consA (MM.bind (MM.pure []) fun xs => lift (mkL xs)) (consA (MM.bind (consA (var 10) (MM.pure [])) fun xs => lift (mkT xs)) (consA (MM.bind (consA (var 10) (consA (var 10) (MM.pure []))) fun xs => lift (mkL xs)) (consA (MM.bind (consA (sliceE (var 10) partN (partS (MM.pure (.int 2)))) (MM.pure [])) fun xs => lift (mkL xs)) (consA (MM.bind (consA (MM.bind (consA (MM.pure (.str "Ann")) (consA (MM.pure (.int 1)) (consA (MM.bind (MM.pure []) fun xs => lift (mkT xs)) (MM.pure [])))) fun xs => lift (mkT xs)) (MM.pure [])) fun xs => lift (mkL xs)) (consA (MM.bind (consA (MM.bind (consA (MM.pure (.str "ann")) (consA (MM.pure (.int 0)) (consA (MM.bind (MM.pure []) fun xs => lift (mkT xs)) (MM.pure [])))) fun xs => lift (mkT xs)) (MM.pure [])) fun xs => lift (mkL xs)) (MM.pure []))))))))) fun xs => lift (mkL xs)) (setD 11))
def s_law_8 : MM Fl := (asgS (op2 dAdd (var 11) (MM.bind (consA (MM.bind (consA (MM.bind (consA (MM.pure (.str "ann")) (consA (MM.pure (.int 1000)) (consA (MM.bind (MM.pure []) fun xs => lift (mkT xs)) (MM.pure [])))) fun xs => lift (mkT xs)) (MM.pure [])) fun xs => lift (mkL xs)) (consA (MM.bind (consA (MM.bind (consA (MM.pure (.str "ann")) (consA (MM.pure (.int 1)) (consA (MM.pure .none) (MM.pure [])))) fun xs => lift (mkT xs)) (MM.pure [])) fun xs => lift (mkL xs)) (consA (MM.bind (consA (callE dList (consA (var 10) (MM.pure []))) (MM.pure [])) fun xs => lift (mkL xs)) (consA (MM.bind (consA (MM.pure .none) (MM.pure [])) fun xs => lift (mkL xs)) (MM.pure []))))) fun xs => lift (mkL xs))) (setD 11))
def c_law_4 : MM D := (MM.bind (consA (op2 dAdd (MM.pure (.str "f")) (var 17)) (consA (MM.pure (.int 1)) (consA (MM.bind (MM.pure []) fun xs => lift (mkT xs)) (MM.pure [])))) fun xs => lift (mkT xs))
def b_law_3 : MM Fl := (seqS (newO (MM.bind (consA (toldE nsX (callE m_apart (consA (var 12) (MM.pure [])))) (MM.pure [])) fun xs => lift (mkOL xs)) 13) (seqS (appS 13 (toldE nsX (callE m_at_least (consA (MM.pure (.int 5)) (consA (var 12) (MM.pure [])))))) (seqS (appS 13 (toldE nsX (callE m_fewest (consA (MM.pure (.int 5)) (consA (var 12) (MM.pure [])))))) (fun ρ => (ifS (opT dNe (op2 dAdd (var 13) (MM.bind (consA (toldE nsX (callE m_may_share (consA (MM.pure (.int 5)) (consA (var 12) (consA (MM.pure .none) (MM.pure [])))))) (MM.pure [])) fun xs => lift (mkL xs))) (op2 dMul (MM.bind (consA (MM.bind (consA (MM.pure (.str "refused")) (consA (MM.pure (.str "BadMoulds")) (MM.pure []))) fun xs => lift (mkT xs)) (MM.pure [])) fun xs => lift (mkL xs)) (MM.pure (.int 4)))) (retS (MM.pure (.bool false))) (MM.pure .nx)) (frzS 13 ρ)))))
def s_law_9 : MM Fl := (MM.bind (iterA (op2 dAdd (var 11) (MM.bind (consA (MM.bind (iterA (MM.pure (.str "abcdefghi"))) (compL [17] (setD 17) (MM.pure true) c_law_4)) (MM.pure [])) fun xs => lift (mkL xs)))) (forD (setD 12) b_law_3))
def c_law_5 : MM D := (MM.bind (consA (op2 dAdd (MM.pure (.str "f")) (var 17)) (consA (MM.pure (.int 999)) (consA (MM.bind (MM.pure []) fun xs => lift (mkT xs)) (MM.pure [])))) fun xs => lift (mkT xs))
def s_law_10 : MM Fl := (asgS (MM.bind (iterA (MM.pure (.str "abcdefgh"))) (compL [17] (setD 17) (MM.pure true) c_law_5)) (setD 14))
def c_law_6 : MM D := (op2 dIx (var 15) (MM.pure (.int 0)))
def s_law_11 : MM Fl := (ifS (opT dNe (callE m_fewest (consA (MM.pure (.int 9999)) (consA (sliceE (var 14) partN (partS (MM.pure (.int 5)))) (MM.pure [])))) (MM.bind (consA (callE dTuple (consA (MM.bind (iterA (sliceE (var 14) partN (partS (MM.pure (.int 5))))) (compL [15] (setD 15) (MM.pure true) c_law_6)) (MM.pure []))) (MM.pure [])) fun xs => lift (mkL xs))) (retS (MM.pure (.bool false))) (MM.pure .nx))
def s_law_12 : MM Fl := (ifS (opT dNe (callE m_apart (consA (var 14) (MM.pure []))) (MM.bind (consA (MM.pure (.str "fa")) (MM.pure [])) fun xs => lift (mkT xs))) (retS (MM.pure (.bool false))) (MM.pure .nx))
def s_law_13 : MM Fl := (ifS (opT dNe (callE m_at_least (consA (MM.pure (.int 999)) (consA (var 14) (MM.pure [])))) (MM.pure (.int 8))) (retS (MM.pure (.bool false))) (MM.pure .nx))
def b_law : MM Fl := (seqS s_law_1 (seqS s_law_2 (seqS s_law_3 (seqS s_law_4 (seqS s_law_5 (seqS s_law_6 (seqS s_law_7 (seqS s_law_8 (seqS s_law_9 (seqS s_law_10 (seqS s_law_11 (seqS s_law_12 s_law_13))))))))))))
theorem sc_law : FnScope ["_law_script", "_law_dice", "_law_room", "_law_forms", "_law_names", "_law_due", "_law_many", "_law_good", "_law_some", "_law_total", "_law_one", "_law_cases", "_law_bad", "_law_made", "_law_eight", "_law_form", "_law_pair", "_law_sign"] ["_law_script"] (defScope (top 54)) := ⟨rfl, rfl, rfl, by decide +kernel, rfl, by decide +kernel, by decide +kernel⟩
theorem ok_law (Y : Fx K mg) (Z : Zx Y base T) (hT : T.td = tdO P w) (hb : RoundOk 18 b_law) : FnOk P w K mg base (L2N.CX P w) 34 Y.d_law.f Y.d_law.fd ["_law_script"] (spLaw K T) :=
  have nd := sc_law.nd
  okN Y.d_law.F sc_law (fun vs H Q E ⟨a, ns, h, _⟩ => by rw [h]; rfl) fun cdv hcd A outer s H vs Q E hr h => ⟨_, pss_cons (ps_for (passes_of rfl) rfl (pi_seq (pe_callS (ok__law_rounds Y Z hT) (hr.mono (by decide)) rfl Y.d__law_rounds.g Y.d__law_rounds.F.kp Y.d__law_rounds.b (fun σ => L2N.passAt (L2N.takes_of rfl rfl rfl rfl) σ) (pa_cons (pv 0) (pa_cons pe_int pa_nil)))) (pg_name (i := 1) nd rfl (by first | exact Or.inl rfl | exact Or.inr rfl)) (pss_ex fun c =>
    (ms_seq (ms_unpk rfl nd (pnc 2 (pnc 3 PNs.nil)) (ml_dat (me_op o_add me_int (me_callO (i := 1) (ok__law_roll Y Z hT) (hr.mono (by decide)) rfl Y.d__law_roll.g Y.d__law_roll.F.kp Y.d__law_roll.b (L2N.takes_of rfl rfl rfl rfl) rfl (by first | exact Or.inl rfl | exact Or.inr (Or.inl rfl) | exact Or.inr (Or.inr rfl)) (ma_cons me_int ma_nil))) (ml_dat (me_callO (i := 1) (ok__law_any_forms Y Z hT) (hr.mono (by decide)) rfl Y.d__law_any_forms.g Y.d__law_any_forms.F.kp Y.d__law_any_forms.b (L2N.takes_of rfl rfl rfl rfl) rfl (by first | exact Or.inl rfl | exact Or.inr (Or.inl rfl) | exact Or.inr (Or.inr rfl)) (ma_cons me_int ma_nil)) ml_nil))) (ms_seq (ms_parL (i := 4) (k := 5) rfl nd rfl rfl (by decide) rfl rfl (ml_dat (me_callTy b_tuple rfl Y.n_tuple bt_tuple (ma_cons (me_callB (b_sorted rfl hr.units) rfl Y.n_sorted bt_sorted (ma_cons (me_lc rfl nd (mi_all (mv 3)) (blk_of [("_law_form", 15)] rfl) rfl (fun c s H C cl fp => (mgn 15 nd)) (fun c s H C cl fp => mts_nil) (fun c s H C cl fp => (me_ix (hu_of hr) (mv 15) me_int (fun _ _ => rfl)))) ma_nil)) ma_nil)) (ml_dat (me_tup ma_nil) ml_nil)) rfl) (ms_seq (ms_for (passes_of rfl) rfl (mi_range2 rfl Y.n_range (ma_cons me_int (ma_cons (me_op o_add (me_callB b_len rfl Y.n_len bt_len (ma_cons (mv 4) ma_nil)) me_int) ma_nil))) (mgn 6 nd) (ms_seq (ms_newO (i := 7) nd rfl (by first | exact Or.inl rfl | exact Or.inr rfl) mo_newL) (ms_seq (ms_for (passes_of rfl) rfl (mi_all (me_call (ok__law_tuples Y Z hT 14) (hr.mono (by decide)) rfl Y.d__law_tuples.g Y.d__law_tuples.F.kp Y.d__law_tuples.b (L2N.takes_of rfl rfl rfl rfl) (ma_cons (mv 4) (ma_cons (mv 6) ma_nil)))) (mgn 8 nd) (ms_one (ms_if (mt_cmp (o_eq hr.units) (me_lc rfl nd (mi_all (me_call (ok__law_tuples Y Z hT 14) (hr.mono (by decide)) rfl Y.d__law_tuples.g Y.d__law_tuples.F.kp Y.d__law_tuples.b (L2N.takes_of rfl rfl rfl rfl) (ma_cons (mv 8) (ma_cons me_int ma_nil)))) (blk_of [("_law_pair", 16)] rfl) rfl (fun c s H C cl fp => (mgn 16 nd)) (fun c s H C cl fp => (mts_one (mt_val (me_call (ok__law_one_melt Y Z hT) (hr.mono (by decide)) rfl Y.d__law_one_melt.g Y.d__law_one_melt.F.kp Y.d__law_one_melt.b takes0 (ma_cons me_int (ma_cons (mv 3) (ma_cons (mv 16) ma_nil))))))) (fun c s H C cl fp => (mv 16))) (me_lst ma_nil) (nomark _)) (ms_one (ms_append (i := 7) rfl (by first | exact Or.inl rfl | exact Or.inr (Or.inl rfl) | exact Or.inr (Or.inr rfl)) (mv 8))) ms_nil))) (ms_freeze 7 (ms_one (ms_set (i := 5) nd rfl (by first | exact Or.inl rfl | exact Or.inr rfl) (me_if (mt_cmp (o_ne hr.units) (mv 7) (me_lst ma_nil) (nomark _)) (me_ix (hu_of hr) (mv 7) me_int (fun _ _ => rfl)) (mv 5)))))))) (ms_seq (ms_set (i := 9) nd rfl (by first | exact Or.inl rfl | exact Or.inr rfl) (me_callB (b_sum rfl) rfl Y.n_sum bt_sum (ma_cons (me_lc rfl nd (mi_all (mv 3)) (blk_of [("_law_form", 15)] rfl) rfl (fun c s H C cl fp => (mgn 15 nd)) (fun c s H C cl fp => mts_nil) (fun c s H C cl fp => (me_ix (hu_of hr) (mv 15) me_int (fun _ _ => rfl)))) ma_nil))) (ms_seq (ms_if (PW.pt (mw_or (mt_cmp (o_ne hr.units) (me_call (ok_apart Y Z hT) (hr.mono (by decide)) rfl Y.d_apart.g Y.d_apart.F.kp Y.d_apart.b (L2N.takes_of rfl rfl rfl rfl) (ma_cons (mv 3) ma_nil)) (mv 5) (nomark _)) (mw_or1 (mt_cmp (o_ne hr.units) (me_call (ok_at_least Y Z hT) (hr.mono (by decide)) rfl Y.d_at_least.g Y.d_at_least.F.kp Y.d_at_least.b (L2N.takes_of rfl rfl rfl rfl) (ma_cons (mv 2) (ma_cons (mv 3) ma_nil))) (me_callB (b_max rfl) rfl Y.n_max bt_max (ma_cons (me_callB b_len rfl Y.n_len bt_len (ma_cons (mv 5) ma_nil)) (ma_cons (me_neg (me_op o_fdiv (me_neg (mv 9)) (mv 2))) ma_nil))) (nomark _))))) (ms_one (ms_ret me_bl)) ms_nil) (ms_seq (ms_set (i := 10) nd rfl (by first | exact Or.inl rfl | exact Or.inr rfl) (me_ix (hu_of hr) (mv 3) me_int (fun _ _ => rfl))) (ms_seq (ms_set (i := 11) nd rfl (by first | exact Or.inl rfl | exact Or.inr rfl) (me_lst (ma_cons me_non (ma_cons me_int (ma_cons (me_lst ma_nil) (ma_cons (me_tup (ma_cons (mv 10) ma_nil)) (ma_cons (me_lst (ma_cons (mv 10) (ma_cons (mv 10) ma_nil))) (ma_cons (me_lst (ma_cons (me_slice (mv 10) mo_none (mo_some me_int)) ma_nil)) (ma_cons (me_lst (ma_cons (me_tup (ma_cons me_str (ma_cons me_int (ma_cons (me_tup ma_nil) ma_nil)))) ma_nil)) (ma_cons (me_lst (ma_cons (me_tup (ma_cons me_str (ma_cons me_int (ma_cons (me_tup ma_nil) ma_nil)))) ma_nil)) ma_nil)))))))))) (ms_seq (ms_set (i := 11) nd rfl (by first | exact Or.inl rfl | exact Or.inr rfl) (me_op o_add (mv 11) (me_lst (ma_cons (me_lst (ma_cons (me_tup (ma_cons me_str (ma_cons me_int (ma_cons (me_tup ma_nil) ma_nil)))) ma_nil)) (ma_cons (me_lst (ma_cons (me_tup (ma_cons me_str (ma_cons me_int (ma_cons me_non ma_nil)))) ma_nil)) (ma_cons (me_lst (ma_cons (me_callTy b_list rfl Y.n_list bt_list (ma_cons (mv 10) ma_nil)) ma_nil)) (ma_cons (me_lst (ma_cons me_non ma_nil)) ma_nil))))))) (ms_seq (ms_for (passes_of rfl) rfl (mi_all (me_op o_add (mv 11) (me_lst (ma_cons (me_lc rfl nd (mi_all me_str) (blk_of [("_law_sign", 17)] rfl) rfl (fun c s H C cl fp => (mgn 17 nd)) (fun c s H C cl fp => mts_nil) (fun c s H C cl fp => (me_tup (ma_cons (me_op o_add me_str (mv 17)) (ma_cons me_int (ma_cons (me_tup ma_nil) ma_nil)))))) ma_nil)))) (mgn 12 nd) (ms_seq (ms_newO (i := 13) nd rfl (by first | exact Or.inl rfl | exact Or.inr rfl) (mo_lst (ma_cons (me_told (k := 18) Z.U Y.d__law_told.F Y.d__law_told.g Y.d__law_told.b sc__law_told rfl rfl rfl rfl rfl (by first | exact Or.inl rfl | exact Or.inr (Or.inl rfl)) Y.d__law_term.F Y.d__law_term.g Y.d__law_term.b (ok__law_term Y Z hT) Z.mk_law hcd (hr.mono (by decide)) rfl rfl rfl (fun _ _ _ _ _ => rfl) (fun A outer s H E f c' hr => (me_call (ok_apart Y Z hT) (hr.mono (by decide)) rfl Y.d_apart.g Y.d_apart.F.kp Y.d_apart.b (L2N.takes_of rfl rfl rfl rfl) (ma_cons (mv 12) ma_nil)))) ma_nil))) (ms_seq (ms_append (i := 13) rfl (by first | exact Or.inl rfl | exact Or.inr (Or.inl rfl) | exact Or.inr (Or.inr rfl)) (me_told (k := 18) Z.U Y.d__law_told.F Y.d__law_told.g Y.d__law_told.b sc__law_told rfl rfl rfl rfl rfl (by first | exact Or.inl rfl | exact Or.inr (Or.inl rfl)) Y.d__law_term.F Y.d__law_term.g Y.d__law_term.b (ok__law_term Y Z hT) Z.mk_law hcd (hr.mono (by decide)) rfl rfl rfl (fun _ _ _ _ _ => rfl) (fun A outer s H E f c' hr => (me_call (ok_at_least Y Z hT) (hr.mono (by decide)) rfl Y.d_at_least.g Y.d_at_least.F.kp Y.d_at_least.b (L2N.takes_of rfl rfl rfl rfl) (ma_cons me_int (ma_cons (mv 12) ma_nil)))))) (ms_seq (ms_append (i := 13) rfl (by first | exact Or.inl rfl | exact Or.inr (Or.inl rfl) | exact Or.inr (Or.inr rfl)) (me_told (k := 31) Z.U Y.d__law_told.F Y.d__law_told.g Y.d__law_told.b sc__law_told rfl rfl rfl rfl rfl (by first | exact Or.inl rfl | exact Or.inr (Or.inl rfl)) Y.d__law_term.F Y.d__law_term.g Y.d__law_term.b (ok__law_term Y Z hT) Z.mk_law hcd (hr.mono (by decide)) rfl rfl rfl (fun _ _ _ _ _ => rfl) (fun A outer s H E f c' hr => (me_call (ok_fewest Y Z hT) (hr.mono (by decide)) rfl Y.d_fewest.g Y.d_fewest.F.kp Y.d_fewest.b (L2N.takes_of rfl rfl rfl rfl) (ma_cons me_int (ma_cons (mv 12) ma_nil)))))) (ms_freeze 13 (ms_one (ms_if (mt_cmp (o_ne hr.units) (me_op o_add (mv 13) (me_lst (ma_cons (me_told (k := 6) Z.U Y.d__law_told.F Y.d__law_told.g Y.d__law_told.b sc__law_told rfl rfl rfl rfl rfl (by first | exact Or.inl rfl | exact Or.inr (Or.inl rfl)) Y.d__law_term.F Y.d__law_term.g Y.d__law_term.b (ok__law_term Y Z hT) Z.mk_law hcd (hr.mono (by decide)) rfl rfl rfl (fun _ _ _ _ _ => rfl) (fun A outer s H E f c' hr => (me_call (ok_may_share Y Z hT) (hr.mono (by decide)) rfl Y.d_may_share.g Y.d_may_share.F.kp Y.d_may_share.b (L2N.takes_of rfl rfl rfl rfl) (ma_cons me_int (ma_cons (mv 12) (ma_cons me_non ma_nil)))))) ma_nil))) (me_op o_mul (me_lst (ma_cons (me_tup (ma_cons me_str (ma_cons me_str ma_nil))) ma_nil)) me_int) (nomark _)) (ms_one (ms_ret me_bl)) ms_nil))))))) (ms_seq (ms_setLc (i := 14) rfl nd rfl rfl (sw_true rfl rfl rfl rfl) (mi_all me_str) (blk_of [("_law_sign", 17)] rfl) rfl (fun c s H C cl fp => (mgn 17 nd)) (fun c s H C cl fp => mts_nil) (fun c s H C cl fp => (me_tup (ma_cons (me_op o_add me_str (mv 17)) (ma_cons me_int (ma_cons (me_tup ma_nil) ma_nil)))))) (ms_seq (ms_if (mt_cmp (o_ne hr.units) (me_call (ok_fewest Y Z hT) (hr.mono (by decide)) rfl Y.d_fewest.g Y.d_fewest.F.kp Y.d_fewest.b (L2N.takes_of rfl rfl rfl rfl) (ma_cons me_int (ma_cons (me_slice (mv 14) mo_none (mo_some me_int)) ma_nil))) (me_lst (ma_cons (me_callTy b_tuple rfl Y.n_tuple bt_tuple (ma_cons (me_lc rfl nd (mi_all (me_slice (mv 14) mo_none (mo_some me_int))) (blk_of [("_law_form", 15)] rfl) rfl (fun c s H C cl fp => (mgn 15 nd)) (fun c s H C cl fp => mts_nil) (fun c s H C cl fp => (me_ix (hu_of hr) (mv 15) me_int (fun _ _ => rfl)))) ma_nil)) ma_nil)) (nomark _)) (ms_one (ms_ret me_bl)) ms_nil) (ms_seq (ms_if (mt_cmp (o_ne hr.units) (me_call (ok_apart Y Z hT) (hr.mono (by decide)) rfl Y.d_apart.g Y.d_apart.F.kp Y.d_apart.b (L2N.takes_of rfl rfl rfl rfl) (ma_cons (mv 14) ma_nil)) (me_tup (ma_cons me_str ma_nil)) (nomark _)) (ms_one (ms_ret me_bl)) ms_nil) (ms_one (ms_if (mt_cmp (o_ne hr.units) (me_call (ok_at_least Y Z hT) (hr.mono (by decide)) rfl Y.d_at_least.g Y.d_at_least.F.kp Y.d_at_least.b (L2N.takes_of rfl rfl rfl rfl) (ma_cons me_int (ma_cons (mv 14) ma_nil))) me_int (nomark _)) (ms_one (ms_ret me_bl)) ms_nil)))))))))))))))) (pss_one (ps_ret pe_bl)), law_reads (r := 3) (by decide) (by decide) hb h⟩
end
end Mi
set_option Elab.async false
set_option linter.all false
set_option maxRecDepth 100000
set_option maxHeartbeats 0
namespace Mi
open PySem PySem.Spec PyProof.Rows L2
def e__law_cell : He.DefD := ⟨("_law_cell", none), "_law_cell", "_law_cell", defArgs (top 44), defBody (top 44), defScope (top 44), [], []⟩
def e__law_rounds : He.DefD := ⟨("_law_rounds", none), "_law_rounds", "_law_rounds", defArgs (top 47), defBody (top 47), defScope (top 47), [], []⟩
def e__law_drawn : He.DefD := ⟨("_law_drawn", none), "_law_drawn", "_law_drawn", defArgs (top 45), defBody (top 45), defScope (top 45), [], []⟩
def e__law_roll : He.DefD := ⟨("_law_roll", none), "_law_roll", "_law_roll", defArgs (top 46), defBody (top 46), defScope (top 46), [], []⟩
def e__law_any_wish : He.DefD := ⟨("_law_any_wish", none), "_law_any_wish", "_law_any_wish", defArgs (top 50), defBody (top 50), defScope (top 50), [], []⟩
def e__law_any_forms : He.DefD := ⟨("_law_any_forms", none), "_law_any_forms", "_law_any_forms", defArgs (top 52), defBody (top 52), defScope (top 52), [], []⟩
def e__law_tuples : He.DefD := ⟨("_law_tuples", none), "_law_tuples", "_law_tuples", defArgs (top 51), defBody (top 51), defScope (top 51), [], []⟩
def e_is_whole : He.DefD := ⟨("is_whole", none), "is_whole", "is_whole", defArgs (top 19), defBody (top 19), defScope (top 19), [], []⟩
def e_need_room : He.DefD := ⟨("need_room", none), "need_room", "need_room", defArgs (top 32), defBody (top 32), defScope (top 32), [], []⟩
def e_are_unlike : He.DefD := ⟨("are_unlike", none), "are_unlike", "are_unlike", defArgs (top 26), defBody (top 26), defScope (top 26), [], []⟩
def e_is_word : He.DefD := ⟨("is_word", none), "is_word", "is_word", defArgs (top 20), defBody (top 20), defScope (top 20), [], []⟩
def e_is_tuple : He.DefD := ⟨("is_tuple", none), "is_tuple", "is_tuple", defArgs (top 21), defBody (top 21), defScope (top 21), [], []⟩
def e_rise : He.DefD := ⟨("rise", none), "rise", "rise", defArgs (top 22), defBody (top 22), defScope (top 22), [], []⟩
def e_is_wish : He.DefD := ⟨("is_wish", none), "is_wish", "is_wish", defArgs (top 23), defBody (top 23), defScope (top 23), [], []⟩
def e_is_form : He.DefD := ⟨("is_form", none), "is_form", "is_form", defArgs (top 30), defBody (top 30), defScope (top 30), [], []⟩
def e_need_forms : He.DefD := ⟨("need_forms", none), "need_forms", "need_forms", defArgs (top 31), defBody (top 31), defScope (top 31), [], []⟩
def e_subsets : He.DefD := ⟨("subsets", none), "subsets", "subsets", defArgs (top 28), defBody (top 28), defScope (top 28), [], []⟩
def e_both_of : He.DefD := ⟨("both_of", none), "both_of", "both_of", defArgs (top 24), defBody (top 24), defScope (top 24), [], []⟩
def e_do_meet : He.DefD := ⟨("do_meet", none), "do_meet", "do_meet", defArgs (top 33), defBody (top 33), defScope (top 33), [], []⟩
def e_weighs : He.DefD := ⟨("weighs", none), "weighs", "weighs", defArgs (top 34), defBody (top 34), defScope (top 34), [], []⟩
def e_is_melt : He.DefD := ⟨("is_melt", none), "is_melt", "is_melt", defArgs (top 35), defBody (top 35), defScope (top 35), [], []⟩
def e_Grouper_best : He.DefD := ⟨("Grouper", some "best"), "best", "Grouper.best", defArgs (inn (top 37) 1), defBody (inn (top 37) 1), defScope (inn (top 37) 1), [], []⟩
def e_Grouper___init__ : He.DefD := ⟨("Grouper", some "__init__"), "__init__", "Grouper.__init__", defArgs (inn (top 37) 0), defBody (inn (top 37) 0), defScope (inn (top 37) 0), [], []⟩
def e_fewest : He.DefD := ⟨("fewest", none), "fewest", "fewest", defArgs (top 38), defBody (top 38), defScope (top 38), [], []⟩
def e_parted : He.DefD := ⟨("parted", none), "parted", "parted", defArgs (top 39), defBody (top 39), defScope (top 39), [], []⟩
def e_most_apart : He.DefD := ⟨("most_apart", none), "most_apart", "most_apart", defArgs (top 40), defBody (top 40), defScope (top 40), [], []⟩
def e_apart : He.DefD := ⟨("apart", none), "apart", "apart", defArgs (top 41), defBody (top 41), defScope (top 41), [], []⟩
def e_at_least : He.DefD := ⟨("at_least", none), "at_least", "at_least", defArgs (top 42), defBody (top 42), defScope (top 42), [], []⟩
def e__law_term : He.DefD := ⟨("_law_term", none), "_law_term", "_law_term", defArgs (top 48), defBody (top 48), defScope (top 48), [], []⟩
def e__law_told : He.DefD := ⟨("_law_told", none), "_law_told", "_law_told", defArgs (top 49), defBody (top 49), defScope (top 49), [], []⟩
def e__law_one_melt : He.DefD := ⟨("_law_one_melt", none), "_law_one_melt", "_law_one_melt", defArgs (top 53), defBody (top 53), defScope (top 53), [], []⟩
def e_need_names : He.DefD := ⟨("need_names", none), "need_names", "need_names", defArgs (top 27), defBody (top 27), defScope (top 27), [], []⟩
def e_may_share : He.DefD := ⟨("may_share", none), "may_share", "may_share", defArgs (top 36), defBody (top 36), defScope (top 36), [], []⟩
def e_law : He.DefD := ⟨("law", none), "law", "law", defArgs (top 54), defBody (top 54), defScope (top 54), [], []⟩
def fn : List He.DefD := [e__law_cell, e__law_rounds, e__law_drawn, e__law_roll, e__law_any_wish, e__law_any_forms, e__law_tuples, e_is_whole, e_need_room, e_are_unlike, e_is_word, e_is_tuple, e_rise, e_is_wish, e_is_form, e_need_forms, e_subsets, e_both_of, e_do_meet, e_weighs, e_is_melt, e_Grouper_best, e_Grouper___init__, e_fewest, e_parted, e_most_apart, e_apart, e_at_least, e__law_term, e__law_told, e__law_one_melt, e_need_names, e_may_share, e_law]
def fa0 : List He.Fa := [.glo "_law_cell", .glo "_law_rounds", .glo "_law_drawn", .glo "_law_roll", .glo "_law_any_wish", .glo "_law_any_forms", .glo "_law_tuples", .glo "is_whole", .glo "need_room", .glo "are_unlike", .glo "is_word", .glo "is_tuple", .glo "rise", .glo "is_wish", .glo "is_form", .glo "need_forms", .glo "subsets", .glo "both_of", .glo "do_meet", .glo "weighs", .glo "is_melt", .glo "fewest", .glo "parted", .glo "most_apart", .glo "apart", .glo "at_least", .glo "_law_term", .glo "_law_told", .glo "_law_one_melt", .glo "need_names"]
def fa1 : List He.Fa := [.glo "may_share", .glo "law", .cls "Grouper", .glo "Grouper", .meth "Grouper" "best", .mkr "Grouper", .noat "Grouper" "known", .noat "Grouper" "room", .noat "Grouper" "forms", .free "len", .free "range", .free "max", .free "min", .free "tuple", .free "enumerate", .free "isinstance", .free "int", .free "bool", .free "set", .free "str", .free "all", .free "zip", .free "list", .free "any", .free "sorted", .free "sum", .free "ValueError", .str "SMALL" "abcdefghijklmnopqrstuvwxyz"]
def fa : List He.Fa := fa0 ++ fa1
def loose0 : List Str := ["CastError", "TooMuch", "BadWord", "BadStuff", "BadWish", "BadLoad", "BadNumber", "BadLots", "BadCharge", "BadPaper", "BadMoulds", "Taken", "NoName", "Nothing", "Full", "BadText", "SMALL", "is_whole", "is_word", "is_tuple", "rise", "is_wish", "both_of", "are_unlike", "need_names", "subsets", "is_form", "need_forms", "need_room", "do_meet"]
def loose1 : List Str := ["weighs", "is_melt", "may_share", "Grouper", "fewest", "parted", "most_apart", "apart", "at_least", "_law_cell", "_law_drawn", "_law_roll", "_law_rounds", "_law_term", "_law_told", "_law_any_wish", "_law_tuples", "_law_any_forms", "_law_one_melt"]
def loose : List Str := loose0 ++ loose1
abbrev R : PySem.W.OpenRow := PySem.W.OpenLaw.row PySem.Challenge.rw_castinghall_k14_whole_apart
def tf : List He.Defn := [("law", none)]
def ex (K : Fg) : Bool := toldB nsX K && apartB tf K
abbrev hk : PySem.W.Hook := He.hookX 4 fa fn [] tf ex
def ob (s : PySem.W.SharedT) : He.AlX := He.obsX 4 fa fn [] tf ex (HandSHeadRun.getT s)
theorem ob_eq (s : PySem.W.SharedT) : ob s = hk.obs s.abs := He.obsX_eq (HandSHeadRun.getT_eq s)
theorem run (w : World) : HandSHeadRun.RunEq R (PySem.W.view R.prog [54]) hk ob 20000 loose w := by
  intro os
  kernel_rfl
theorem facts {K : Fg} {w : World} {h : Heap} {mg : Str → Option Value} (X : K.In h) (G : h.Ns mainGlobals mg) (cx : He.SaysX fa fn [] tf ex w h K) : ∃ Y : Fx K mg, (∀ (s : Shared) (v : Value), BindsTo s Y.d_law.fd ⟨[v], []⟩ [("_law_script", v)]) ∧ ∀ base : Heap, (∀ p ∈ tf, LamX.TabB base mg (He.cT K p).1 (He.cT K p).2) → Zx Y base (Ts (tdO (PySem.Challenge.rw_castinghall_k14_whole_apart).prog w) tf K) := by
  have c : He.SaysD fa fn K := cx.t.d
  have hex := cx.more
  unfold ex at hex
  rw [Bool.and_eq_true] at hex
  obtain ⟨fd0, F0⟩ := c.def_ 0 (d := e__law_cell) rfl
  obtain ⟨fd1, F1⟩ := c.def_ 1 (d := e__law_rounds) rfl
  obtain ⟨fd2, F2⟩ := c.def_ 2 (d := e__law_drawn) rfl
  obtain ⟨fd3, F3⟩ := c.def_ 3 (d := e__law_roll) rfl
  obtain ⟨fd4, F4⟩ := c.def_ 4 (d := e__law_any_wish) rfl
  obtain ⟨fd5, F5⟩ := c.def_ 5 (d := e__law_any_forms) rfl
  obtain ⟨fd6, F6⟩ := c.def_ 6 (d := e__law_tuples) rfl
  obtain ⟨fd7, F7⟩ := c.def_ 7 (d := e_is_whole) rfl
  obtain ⟨fd8, F8⟩ := c.def_ 8 (d := e_need_room) rfl
  obtain ⟨fd9, F9⟩ := c.def_ 9 (d := e_are_unlike) rfl
  obtain ⟨fd10, F10⟩ := c.def_ 10 (d := e_is_word) rfl
  obtain ⟨fd11, F11⟩ := c.def_ 11 (d := e_is_tuple) rfl
  obtain ⟨fd12, F12⟩ := c.def_ 12 (d := e_rise) rfl
  obtain ⟨fd13, F13⟩ := c.def_ 13 (d := e_is_wish) rfl
  obtain ⟨fd14, F14⟩ := c.def_ 14 (d := e_is_form) rfl
  obtain ⟨fd15, F15⟩ := c.def_ 15 (d := e_need_forms) rfl
  obtain ⟨fd16, F16⟩ := c.def_ 16 (d := e_subsets) rfl
  obtain ⟨fd17, F17⟩ := c.def_ 17 (d := e_both_of) rfl
  obtain ⟨fd18, F18⟩ := c.def_ 18 (d := e_do_meet) rfl
  obtain ⟨fd19, F19⟩ := c.def_ 19 (d := e_weighs) rfl
  obtain ⟨fd20, F20⟩ := c.def_ 20 (d := e_is_melt) rfl
  obtain ⟨fd21, F21⟩ := c.def_ 21 (d := e_Grouper_best) rfl
  obtain ⟨fd22, F22⟩ := c.def_ 22 (d := e_Grouper___init__) rfl
  obtain ⟨fd23, F23⟩ := c.def_ 23 (d := e_fewest) rfl
  obtain ⟨fd24, F24⟩ := c.def_ 24 (d := e_parted) rfl
  obtain ⟨fd25, F25⟩ := c.def_ 25 (d := e_most_apart) rfl
  obtain ⟨fd26, F26⟩ := c.def_ 26 (d := e_apart) rfl
  obtain ⟨fd27, F27⟩ := c.def_ 27 (d := e_at_least) rfl
  obtain ⟨fd28, F28⟩ := c.def_ 28 (d := e__law_term) rfl
  obtain ⟨fd29, F29⟩ := c.def_ 29 (d := e__law_told) rfl
  obtain ⟨fd30, F30⟩ := c.def_ 30 (d := e__law_one_melt) rfl
  obtain ⟨fd31, F31⟩ := c.def_ 31 (d := e_need_names) rfl
  obtain ⟨fd32, F32⟩ := c.def_ 32 (d := e_may_share) rfl
  obtain ⟨fd33, F33⟩ := c.def_ 33 (d := e_law) rfl
  have b := FunD.bindsA (ps := ["_law_script"]) F33 fun _ _ _ _ _ _ us hl => match us, hl with | [_], _ => rfl
  exact ⟨⟨⟨_, fd0, He5.fun_of F0, He.glo_ok X G (c.fact 0 (f := .glo "_law_cell") rfl), FunD.bindsN F0 fun _ _ _ _ _ _ us hl => match us, hl with | [_, _], _ => rfl⟩,
    ⟨_, fd1, He5.fun_of F1, He.glo_ok X G (c.fact 1 (f := .glo "_law_rounds") rfl), FunD.bindsN F1 fun _ _ _ _ _ _ us hl => match us, hl with | [_, _], _ => rfl⟩,
    ⟨_, fd2, He5.fun_of F2, He.glo_ok X G (c.fact 2 (f := .glo "_law_drawn") rfl), FunD.bindsN F2 fun _ _ _ _ _ _ us hl => match us, hl with | [_, _], _ => rfl⟩,
    ⟨_, fd3, He5.fun_of F3, He.glo_ok X G (c.fact 3 (f := .glo "_law_roll") rfl), FunD.bindsN F3 fun _ _ _ _ _ _ us hl => match us, hl with | [_, _], _ => rfl⟩,
    ⟨_, fd4, He5.fun_of F4, He.glo_ok X G (c.fact 4 (f := .glo "_law_any_wish") rfl), FunD.bindsN F4 fun _ _ _ _ _ _ us hl => match us, hl with | [_], _ => rfl⟩,
    ⟨_, fd5, He5.fun_of F5, He.glo_ok X G (c.fact 5 (f := .glo "_law_any_forms") rfl), FunD.bindsN F5 fun _ _ _ _ _ _ us hl => match us, hl with | [_, _], _ => rfl⟩,
    ⟨_, fd6, He5.fun_of F6, He.glo_ok X G (c.fact 6 (f := .glo "_law_tuples") rfl), FunD.bindsN F6 fun _ _ _ _ _ _ us hl => match us, hl with | [_, _], _ => rfl⟩,
    ⟨_, fd7, He5.fun_of F7, He.glo_ok X G (c.fact 7 (f := .glo "is_whole") rfl), FunD.bindsN F7 fun _ _ _ _ _ _ us hl => match us, hl with | [_, _, _], _ => rfl⟩,
    ⟨_, fd8, He5.fun_of F8, He.glo_ok X G (c.fact 8 (f := .glo "need_room") rfl), FunD.bindsN F8 fun _ _ _ _ _ _ us hl => match us, hl with | [_], _ => rfl⟩,
    ⟨_, fd9, He5.fun_of F9, He.glo_ok X G (c.fact 9 (f := .glo "are_unlike") rfl), FunD.bindsN F9 fun _ _ _ _ _ _ us hl => match us, hl with | [_], _ => rfl⟩,
    ⟨_, fd10, He5.fun_of F10, He.glo_ok X G (c.fact 10 (f := .glo "is_word") rfl), FunD.bindsN F10 fun _ _ _ _ _ _ us hl => match us, hl with | [_], _ => rfl⟩,
    ⟨_, fd11, He5.fun_of F11, He.glo_ok X G (c.fact 11 (f := .glo "is_tuple") rfl), FunD.bindsN F11 fun _ _ _ _ _ _ us hl => match us, hl with | [_, _], _ => rfl⟩,
    ⟨_, fd12, He5.fun_of F12, He.glo_ok X G (c.fact 12 (f := .glo "rise") rfl), FunD.bindsN F12 fun _ _ _ _ _ _ us hl => match us, hl with | [_], _ => rfl⟩,
    ⟨_, fd13, He5.fun_of F13, He.glo_ok X G (c.fact 13 (f := .glo "is_wish") rfl), FunD.bindsN F13 fun _ _ _ _ _ _ us hl => match us, hl with | [_], _ => rfl⟩,
    ⟨_, fd14, He5.fun_of F14, He.glo_ok X G (c.fact 14 (f := .glo "is_form") rfl), FunD.bindsN F14 fun _ _ _ _ _ _ us hl => match us, hl with | [_], _ => rfl⟩,
    ⟨_, fd15, He5.fun_of F15, He.glo_ok X G (c.fact 15 (f := .glo "need_forms") rfl), FunD.bindsN F15 fun _ _ _ _ _ _ us hl => match us, hl with | [_], _ => rfl⟩,
    ⟨_, fd16, He5.fun_of F16, He.glo_ok X G (c.fact 16 (f := .glo "subsets") rfl), FunD.bindsN F16 fun _ _ _ _ _ _ us hl => match us, hl with | [_, _], _ => rfl⟩,
    ⟨_, fd17, He5.fun_of F17, He.glo_ok X G (c.fact 17 (f := .glo "both_of") rfl), FunD.bindsN F17 fun _ _ _ _ _ _ us hl => match us, hl with | [_, _], _ => rfl⟩,
    ⟨_, fd18, He5.fun_of F18, He.glo_ok X G (c.fact 18 (f := .glo "do_meet") rfl), FunD.bindsN F18 fun _ _ _ _ _ _ us hl => match us, hl with | [_, _], _ => rfl⟩,
    ⟨_, fd19, He5.fun_of F19, He.glo_ok X G (c.fact 19 (f := .glo "weighs") rfl), FunD.bindsN F19 fun _ _ _ _ _ _ us hl => match us, hl with | [_, _], _ => rfl⟩,
    ⟨_, fd20, He5.fun_of F20, He.glo_ok X G (c.fact 20 (f := .glo "is_melt") rfl), FunD.bindsN F20 fun _ _ _ _ _ _ us hl => match us, hl with | [_, _, _], _ => rfl⟩,
    ⟨_, fd21, He5.fun_of F21, rfl, FunD.bindsN F21 fun _ _ _ _ _ _ us hl => match us, hl with | [_, _], _ => rfl⟩,
    He.meth_ok (c.fact 34 (f := .meth "Grouper" "best") rfl),
    ⟨_, fd22, He5.fun_of F22, rfl, FunD.bindsN F22 fun _ _ _ _ _ _ us hl => match us, hl with | [_, _, _], _ => rfl⟩,
    He.mkr_ok (c.fact 35 (f := .mkr "Grouper") rfl),
    ⟨_, fd23, He5.fun_of F23, He.glo_ok X G (c.fact 21 (f := .glo "fewest") rfl), FunD.bindsN F23 fun _ _ _ _ _ _ us hl => match us, hl with | [_, _], _ => rfl⟩,
    ⟨_, fd24, He5.fun_of F24, He.glo_ok X G (c.fact 22 (f := .glo "parted") rfl), FunD.bindsN F24 fun _ _ _ _ _ _ us hl => match us, hl with | [_, _], _ => rfl⟩,
    ⟨_, fd25, He5.fun_of F25, He.glo_ok X G (c.fact 23 (f := .glo "most_apart") rfl), FunD.bindsN F25 fun _ _ _ _ _ _ us hl => match us, hl with | [_], _ => rfl⟩,
    ⟨_, fd26, He5.fun_of F26, He.glo_ok X G (c.fact 24 (f := .glo "apart") rfl), FunD.bindsN F26 fun _ _ _ _ _ _ us hl => match us, hl with | [_], _ => rfl⟩,
    ⟨_, fd27, He5.fun_of F27, He.glo_ok X G (c.fact 25 (f := .glo "at_least") rfl), FunD.bindsN F27 fun _ _ _ _ _ _ us hl => match us, hl with | [_, _], _ => rfl⟩,
    ⟨_, fd28, He5.fun_of F28, He.glo_ok X G (c.fact 26 (f := .glo "_law_term") rfl), FunD.bindsN F28 fun _ _ _ _ _ _ us hl => match us, hl with | [_], _ => rfl⟩,
    ⟨_, fd29, He5.fun_of F29, He.glo_ok X G (c.fact 27 (f := .glo "_law_told") rfl), FunD.bindsN F29 fun _ _ _ _ _ _ us hl => match us, hl with | [_], _ => rfl⟩,
    ⟨_, fd30, He5.fun_of F30, He.glo_ok X G (c.fact 28 (f := .glo "_law_one_melt") rfl), FunD.bindsN F30 fun _ _ _ _ _ _ us hl => match us, hl with | [_, _, _], _ => rfl⟩,
    ⟨_, fd31, He5.fun_of F31, He.glo_ok X G (c.fact 29 (f := .glo "need_names") rfl), FunD.bindsN F31 fun _ _ _ _ _ _ us hl => match us, hl with | [_, _], _ => rfl⟩,
    ⟨_, fd32, He5.fun_of F32, He.glo_ok X G (c.fact 30 (f := .glo "may_share") rfl), FunD.bindsN F32 fun _ _ _ _ _ _ us hl => match us, hl with | [_, _, _], _ => rfl⟩,
    ⟨_, fd33, He5.fun_of F33, He.glo_ok X G (c.fact 31 (f := .glo "law") rfl), FunD.bindsN F33 fun _ _ _ _ _ _ us hl => match us, hl with | [_], _ => rfl⟩,
    He.cls_ok (c.fact 32 (f := .cls "Grouper") rfl),
    He.glo_ok X G (c.fact 33 (f := .glo "Grouper") rfl),
    He.noat_ok (c.fact 36 (f := .noat "Grouper" "known") rfl),
    He.noat_ok (c.fact 37 (f := .noat "Grouper" "room") rfl),
    He.noat_ok (c.fact 38 (f := .noat "Grouper" "forms") rfl),
    He.free_ok X G (c.fact 39 (f := .free "len") rfl),
    He.free_ok X G (c.fact 40 (f := .free "range") rfl),
    He.free_ok X G (c.fact 41 (f := .free "max") rfl),
    He.free_ok X G (c.fact 42 (f := .free "min") rfl),
    He.free_ok X G (c.fact 43 (f := .free "tuple") rfl),
    He.free_ok X G (c.fact 44 (f := .free "enumerate") rfl),
    He.free_ok X G (c.fact 45 (f := .free "isinstance") rfl),
    He.free_ok X G (c.fact 46 (f := .free "int") rfl),
    He.free_ok X G (c.fact 47 (f := .free "bool") rfl),
    He.free_ok X G (c.fact 48 (f := .free "set") rfl),
    He.free_ok X G (c.fact 49 (f := .free "str") rfl),
    He.free_ok X G (c.fact 50 (f := .free "all") rfl),
    He.free_ok X G (c.fact 51 (f := .free "zip") rfl),
    He.free_ok X G (c.fact 52 (f := .free "list") rfl),
    He.free_ok X G (c.fact 53 (f := .free "any") rfl),
    He.free_ok X G (c.fact 54 (f := .free "sorted") rfl),
    He.free_ok X G (c.fact 55 (f := .free "sum") rfl),
    He.free_ok X G (c.fact 56 (f := .free "ValueError") rfl),
    He.str_ok X G (c.fact 57 (f := .str "SMALL" "abcdefghijklmnopqrstuvwxyz") rfl)⟩, fun s v => b s [v] rfl, fun base TB => ⟨toldF_of X G hex.1, mkr_of (st := top 54) (He5.fun_of F33) (by decide +kernel) hex.2 TB⟩⟩
theorem cx_none {P : Program} {w : World} {H : Hp} {s : Shared} {e : Value} {s1 : Shared} (h : L2N.CX P w [] H s (fun _ _ _ => False) e s1) : False := by
  obtain ⟨a, B, H1, cls, d, _, _, _, _, _, _, _, z⟩ := h
  exact z
end Mi
open PySem PySem.W PySem.Calls PyProof.Rows
theorem Mi.holds_of (hb : Mi.RoundOk 18 Mi.b_law) : PySem.Challenge.rw_castinghall_k14_whole_apart.Holds := by
  w_on; o_law
  refine HandSHeadRun.head_any (r := OpenLaw.row PySem.Challenge.rw_castinghall_k14_whole_apart) (q := view (OpenLaw.row PySem.Challenge.rw_castinghall_k14_whole_apart).prog [54]) (H := Mi.hk) (ob := Mi.ob) (M := 20000) (loose := Mi.loose) (d := HandSHeadRun.topDef (OpenLaw.row PySem.Challenge.rw_castinghall_k14_whole_apart).prog 54) (kwd := []) Mi.ob_eq
    (by kernel_rfl) (fun s => by kernel_rfl) Mi.run (by kernel_rfl) (by kernel_rfl) (by kernel_rfl) (by rfl) (by first | assumption | decide +kernel) (by decide +kernel) ⟨rfl, rfl, rfl, rfl, rfl, by decide +kernel⟩ ?hw ?hc
  case hw => w_witness2
  case hc =>
    refine LamX.walk_ofTsE (l := PySem.Challenge.rw_castinghall_k14_whole_apart) (n := 63) (k := 34) (x := "_law_script") (CX := fun w => L2N.CX (PySem.Challenge.rw_castinghall_k14_whole_apart).prog w) rfl (by decide) (by kernel_rfl) ⟨rfl, by decide, by decide⟩ ?F (fun _ _ _ _ _ z => Mi.cx_none z)
    intro w mg fa h Y G hmg0
    obtain ⟨K, KX, c⟩ := Y
    have hmg : mg ("law" : PySem.Str) = some (.ref fa) := by
      have e : (HandSHeadRun.topDef (OpenLaw.row PySem.Challenge.rw_castinghall_k14_whole_apart).prog 54).name = ("law" : PySem.Str) := by kernel_rfl
      rw [← e]
      exact hmg0
    obtain ⟨Y, hbd, hZ⟩ := Mi.facts KX G c
    have e := hmg.symm.trans Y.d_law.g
    cases e
    exact ⟨K, KX, Y.d_law.fd, Mi.tf.map (He.cT K), Mi.spLaw K (Mi.Ts (Mi.tdO (PySem.Challenge.rw_castinghall_k14_whole_apart).prog w) Mi.tf K), (fun p hp => by obtain ⟨p', hp', rfl⟩ := List.mem_map.mp hp; exact c.empty p' hp'), (fun p hp => by obtain ⟨p', hp', rfl⟩ := List.mem_map.mp hp; exact c.out p' hp'), (fun p hp => by obtain ⟨p', hp', rfl⟩ := List.mem_map.mp hp; exact PySem.W.codeHd_of_K KX (c.hd p' hp')), hbd, fun H a ns hl _ hT hS => ⟨a, ns, rfl, hS, by omega, Mi.tabs_of hT, fun _ => rfl⟩, fun base _ _ TB => Mi.ok_law Y (hZ base fun p hp => TB _ (List.mem_map.mpr ⟨p, hp, rfl⟩)) rfl hb⟩
set_option Elab.async false
set_option linter.all false
set_option maxRecDepth 100000
set_option maxHeartbeats 4000000
namespace Mi
open PySem L2
theorem log2_lt_of {n k : Nat} (h : n < 2 ^ k) (hk : 0 < k) : n.log2 < k := by
  by_cases z : n = 0
  · subst z; simpa using hk
  · exact (Nat.log2_lt z).mpr h
theorem mulOk_r {i j : Int} (h : -(2 ^ 64) < j) (h2 : j < 2 ^ 64) : mulOk i j = true := by
  unfold mulOk
  have a : decide (-(2 ^ 64) < j) = true := decide_eq_true h
  have b : decide (j < 2 ^ 64) = true := decide_eq_true h2
  rw [a, b]
  simp
theorem mulOk_w {i j : Int} (h : i.natAbs < 2 ^ 400) (h2 : j.natAbs < 2 ^ 400) : mulOk i j = true := by
  have a := log2_lt_of h (by decide)
  have b := log2_lt_of h2 (by decide)
  unfold mulOk
  have c : decide (i.natAbs.log2 + j.natAbs.log2 < 1000000) = true := decide_eq_true (by omega)
  rw [c]
  simp
theorem mulOk_n {i j : Int} (h0 : 0 ≤ i) (h : i < 2 ^ 300) (h1 : 0 ≤ j) (h2 : j < 2 ^ 300) : mulOk i j = true :=
  mulOk_w (by have : (2 : Int) ^ 300 < 2 ^ 400 := by decide
              have e : ((i.natAbs : Nat) : Int) = i := Int.natAbs_of_nonneg h0
              have : ((i.natAbs : Nat) : Int) < ((2 ^ 400 : Nat) : Int) := by rw [e]; exact Int.lt_trans h this
              exact Int.ofNat_lt.mp this)
    (by have : (2 : Int) ^ 300 < 2 ^ 400 := by decide
        have e : ((j.natAbs : Nat) : Int) = j := Int.natAbs_of_nonneg h1
        have : ((j.natAbs : Nat) : Int) < ((2 ^ 400 : Nat) : Int) := by rw [e]; exact Int.lt_trans h2 this
        exact Int.ofNat_lt.mp this)
theorem drawn_ok (x y : Int) : ∃ r : Int, m__law_drawn [.int x, .int y] = .ok (.int r) := by
  unfold m__law_drawn b__law_drawn
  have h1 : ∀ i, mulOk i 6364136223846793005 = true := fun i => mulOk_r (by decide) (by decide)
  have h2 : ∀ i, mulOk i 1442695040888963407 = true := fun i => mulOk_r (by decide) (by decide)
  have lg : Nat.log2 18446744073709551557 < 9000 := log2_lt_of (Nat.lt_trans (by decide : 18446744073709551557 < 2 ^ 64) (by decide)) (by decide)
  simp [h1, h2, lg]
  generalize ha : (x * 6364136223846793005 + (y + 1) * 1442695040888963407) % 340282366920938463463374607431768211507 = a
  have a0 : 0 ≤ a := by rw [← ha]; exact Int.emod_nonneg _ (by decide)
  have a1 : a < 340282366920938463463374607431768211507 := by rw [← ha]; exact Int.emod_lt_of_pos _ (by decide)
  have m1 : mulOk a a = true := mulOk_n a0 (Int.lt_trans a1 (by decide)) a0 (Int.lt_trans a1 (by decide))
  rw [if_pos m1]
  generalize hc : a * a % 340282366920938463463374607431768211297 = c
  have c0 : 0 ≤ c := by rw [← hc]; exact Int.emod_nonneg _ (by decide)
  have c1 : c < 340282366920938463463374607431768211297 := by rw [← hc]; exact Int.emod_lt_of_pos _ (by decide)
  generalize hr : c % 18446744073709551557 = r
  have r0 : 0 ≤ r := by rw [← hr]; exact Int.emod_nonneg _ (by decide)
  have r1 : r < 18446744073709551557 := by rw [← hr]; exact Int.emod_lt_of_pos _ (by decide)
  generalize hq : c / 18446744073709551557 = q
  have q0 : 0 ≤ q := by rw [← hq]; exact Int.ediv_nonneg c0 (by decide)
  have q1 : q < 36893488147419103232 := by rw [← hq]; exact Int.ediv_lt_of_lt_mul (by decide) (Int.lt_trans c1 (by decide))
  have m2 : mulOk (r + 1) (q + 1) = true := mulOk_n (by omega) (Int.lt_trans (show r + 1 < 18446744073709551559 by omega) (by decide)) (by omega) (Int.lt_trans (show q + 1 < 36893488147419103233 by omega) (by decide))
  rw [if_pos m2]
  have p0 : 0 ≤ (r + 1) * (q + 1) := Int.mul_nonneg (by omega) (by omega)
  have p1 : (r + 1) * (q + 1) ≤ 18446744073709551558 * 36893488147419103232 := Int.mul_le_mul (by omega) (by omega) (by omega) (by decide)
  have m3 : mulOk ((r + 1) * (q + 1)) c = true := mulOk_n p0 (Int.lt_of_le_of_lt p1 (by decide)) c0 (Int.lt_trans c1 (by decide))
  rw [if_pos m3]
  exact ⟨_, rfl⟩
theorem roll_ok (x y m : Int) (h0 : 0 < m) (h1 : m < 2 ^ 20) : ∃ r x' y' : Int, 0 ≤ r ∧ r < m ∧ m__law_roll [.int x, .int y] [.int m] = .ok (.int r, [.int x', .int y']) := by
  have lg : m.natAbs.log2 < 9000 := log2_lt_of (k := 9000) (Nat.lt_of_lt_of_le (show m.natAbs < 2 ^ 20 by omega) (Nat.pow_le_pow_right (by decide) (by decide))) (by decide)
  have lg8 : Nat.log2 8 < 9000 := Nat.lt_trans (log2_lt_of (n := 8) (k := 4) (by decide) (by decide)) (by decide)
  unfold m__law_roll b__law_roll
  obtain ⟨d, hd⟩ := drawn_ok x (y + 1)
  by_cases hx : 1000000000000000000 ≤ x
  · refine ⟨x % m, x / m, y, Int.emod_nonneg _ (by omega), Int.emod_lt_of_pos _ h0, ?_⟩
    simp [hx, h0, lg]
  · refine ⟨d / 8 % m, x, y + 1, Int.emod_nonneg _ (by omega), Int.emod_lt_of_pos _ h0, ?_⟩
    simp [hx, h0, hd, lg8]
end Mi
set_option Elab.async false
set_option linter.all false
set_option maxRecDepth 100000
set_option maxHeartbeats 4000000
namespace Mi
open PySem L2
/-! ### encodings -/
abbrev Stf := List (Str × Int)
abbrev Wsh := List (Str × Int × Int)
def e2 (p : Str × Int) : D := .tuple [.str p.1, .int p.2]
def e3 (p : Str × Int × Int) : D := .tuple [.str p.1, .int p.2.1, .int p.2.2]
def encS (s : Stf) : D := .tuple (s.map e2)
def encW (w : Wsh) : D := .tuple (w.map e3)
abbrev Lod := List (Int × Stf)
def eL (p : Int × Stf) : D := .tuple [.int p.1, encS p.2]
def encL (l : Lod) : D := .list (l.map eL)
/-! ### words, numbers -/
def smallL : List Nat := ("abcdefghijklmnopqrstuvwxyz" : Str).cps.toList
def isWordB (u : Str) : Bool := (decide (1 ≤ u.length) && decide (u.length ≤ 8)) && u.cps.toList.all fun c => decide (c ∈ smallL)
def chD (c : Nat) : D := .str ⟨#[c]⟩
theorem charsD_eq (u : Str) : charsD u = u.cps.toList.map chD := rfl
theorem in_small (c : Nat) : inB0 (chD c) (.str "abcdefghijklmnopqrstuvwxyz") = some (decide (c ∈ smallL)) := rfl
theorem word_str (u : Str) (h : u.length ≤ 16777216) : m_is_word [.str u] = .ok (.bool (isWordB u)) := by
  by_cases z : u.length ≤ 8
  · have hl : u.cps.toList.length < 16777216 := by
      have : u.cps.toList.length = u.length := by simp [Str.length]
      omega
    have hc := compL_mapT (os := [1]) (gt := setD 1) (el := c_is_word_1) (enc := chD) (f := fun c => .bool (decide (c ∈ smallL))) (ρ := [some (.d (.str u)), none, none]) (l := u.cps.toList) hl (by simp) fun c _ => ⟨[some (.d (.str u)), some (.d (chD c)), none], by simp, by simp, by simp [c_is_word_1, in_small]⟩
    simp only [m_is_word, b_is_word]
    simp [-compL_ap, charsD_eq, hc, toBools_map, h, isWordB]
    by_cases y : 1 ≤ u.length
    · have y1 : (1 : Int) ≤ u.length := by omega
      have z1 : (u.length : Int) ≤ 8 := by omega
      simp [y, z, y1, z1]
    · have y1 : ¬ (1 : Int) ≤ u.length := by omega
      simp [y, y1]
  · simp only [m_is_word, b_is_word, isWordB]
    have z1 : ¬ (u.length : Int) ≤ 8 := by omega
    simp [-compL_ap, h, z, z1]
theorem word_not {d : D} (h : isStr d = false) (nl : isLoc d = false := by rfl) : m_is_word [d] = .ok (.bool false) := by
  simp [m_is_word, b_is_word, h, isiK_of nl]
theorem whole_int (i lo hi : Int) : m_is_whole [.int i, .int lo, .int hi] = .ok (.bool (decide (lo ≤ i) && decide (i ≤ hi))) := by
  simp [m_is_whole, b_is_whole]
theorem whole_bool (b : Bool) (lo hi : D) : m_is_whole [.bool b, lo, hi] = .ok (.bool false) := by
  have : isBool (.bool b) = true := rfl
  simp [m_is_whole, b_is_whole, this]
theorem whole_not {d : D} (h : isInt d = false) (lo hi : D) (nl : isLoc d = false := by rfl) : m_is_whole [d, lo, hi] = .ok (.bool false) := by
  simp [m_is_whole, b_is_whole, h, isiK_of nl]
theorem eqOk_int (i : Int) : eqOk (.int i) = true := rfl
theorem eqOk_str {u : Str} (h : PyData.strOk u = true) : eqOk (.str u) = true := by
  exact (flt_str h).ok
theorem tuple_row (u : Str) (r : List D) (m : Int) (h : u.length ≤ 16777216) : m_is_tuple [.tuple (.str u :: r), .int m] = .ok (.bool (decide (((r.length + 1 : Nat) : Int) = m) && isWordB u)) := by
  simp [m_is_tuple, b_is_tuple, eqOk_int, word_str u h]
theorem strOk_word {u : Str} (h : isWordB u = true) : PyData.strOk u = true := by
  simp only [isWordB, Bool.and_eq_true, List.all_eq_true, decide_eq_true_eq] at h
  unfold PyData.strOk
  rw [Array.all_eq_true']
  intro c hc
  have h2 := h.2 c (by simpa using hc)
  have : ∀ c ∈ smallL, c < 0x110000 := by decide +kernel
  simpa using this c h2
theorem len_word {u : Str} (h : isWordB u = true) : u.length ≤ 16777216 := by
  simp only [isWordB, Bool.and_eq_true, decide_eq_true_eq] at h
  omega
theorem flt_e3 {p : Str × Int × Int} (h : isWordB p.1 = true) : Flt 1 (e3 p) := flt_tuple (by intro x m; simp at m; rcases m with rfl | rfl | rfl; exact flt_str (strOk_word h); exact flt_int _; exact flt_int _)
theorem flt_e2 {p : Str × Int} (h : isWordB p.1 = true) : Flt 1 (e2 p) := flt_tuple (by intro x m; simp at m; rcases m with rfl | rfl; exact flt_str (strOk_word h); exact flt_int _)
end Mi
set_option Elab.async false
set_option linter.all false
set_option maxRecDepth 100000
set_option maxHeartbeats 4000000
namespace Mi
open PySem L2
/-! ### wishes -/
def rw3 (e : Str) (lo hi : Int) : D := .tuple [.str e, .int lo, .int hi]
abbrev Iv := Option (Int × Int)
def opt3 (e : Str) : Iv → List D
  | none => []
  | some (lo, hi) => [rw3 e lo hi]
def wishD (a c s : Iv) : List D := opt3 "al" a ++ (opt3 "cu" c ++ opt3 "si" s)
def okI : Iv → Prop
  | none => True
  | some (lo, hi) => 0 ≤ lo ∧ lo ≤ hi ∧ hi ≤ 1000
theorem wish_step (x y : Int) (found : List D) (hf : found.length < 1000) (el : Str) (l : Option S) : ∃ (o : Iv) (x' y' : Int) (l' : Option S), okI o ∧ b__law_any_wish_1 [some (.dc [.int x, .int y]), some (.ol found), some (.d (.str el)), l, none] = .ok .nx [some (.dc [.int x', .int y']), some (.ol (found ++ opt3 el o)), some (.d (.str el)), l', none] := by
  obtain ⟨r, x1, y1, a0, a1, h1⟩ := roll_ok x y 2 (by decide) (by decide)
  have hf' : found.length < 16777216 := by omega
  unfold b__law_any_wish_1
  by_cases z : r = 0
  · obtain ⟨lo, x2, y2, b0, b1, h2⟩ := roll_ok x1 y1 200 (by decide) (by decide)
    obtain ⟨h, x3, y3, c0, c1, h3⟩ := roll_ok x2 y2 300 (by decide) (by decide)
    refine ⟨some (lo, lo + h), x3, y3, some (.d (.int lo)), ⟨b0, by omega, by omega⟩, ?_⟩
    simp [h1, h2, h3, z, eqOk_int, hf', opt3, rw3]
  · refine ⟨none, x1, y1, l, trivial, ?_⟩
    simp [h1, z, eqOk_int, opt3]
theorem any_wish_ok (x y : Int) : ∃ (a c s : Iv) (x' y' : Int), okI a ∧ okI c ∧ okI s ∧ m__law_any_wish [.int x, .int y] [] = .ok (.tuple (wishD a c s), [.int x', .int y']) := by
  have len : ∀ (o : Iv) (e : Str), (opt3 e o).length ≤ 1 := fun o e => by cases o <;> simp [opt3]
  obtain ⟨a, x1, y1, l1, ha, h1⟩ := wish_step x y [] (by decide) "al" none
  obtain ⟨c, x2, y2, l2, hc, h2⟩ := wish_step x1 y1 ([] ++ opt3 "al" a) (by have := len a "al"; simp; omega) "cu" l1
  obtain ⟨s, x3, y3, l3, hs, h3⟩ := wish_step x2 y2 (([] ++ opt3 "al" a) ++ opt3 "cu" c) (by have := len a "al"; have := len c "cu"; simp; omega) "si" l2
  refine ⟨a, c, s, x3, y3, ha, hc, hs, ?_⟩
  unfold m__law_any_wish b__law_any_wish
  simp at h1 h2 h3
  simp [h1, h2, h3, wishD]
/-! ### is it a wish -/
theorem word_al : m_is_word [.str "al"] = .ok (.bool true) := by rfl
theorem word_cu : m_is_word [.str "cu"] = .ok (.bool true) := by rfl
theorem word_si : m_is_word [.str "si"] = .ok (.bool true) := by rfl
theorem cut1 (x : D) (xs : List D) : cutD (x :: xs) (some 1) none = xs := by
  unfold cutD
  simp [HT.sIx]
theorem cut1_nil : cutD [] (some 1) none = [] := by
  unfold cutD
  simp [HT.sIx]
theorem lt_ac : strLt "al" "cu" = true := by decide
theorem lt_as : strLt "al" "si" = true := by decide
theorem lt_cs : strLt "cu" "si" = true := by decide
theorem tuple3 (e : Str) (lo hi : Int) (h : m_is_word [.str e] = .ok (.bool true)) : m_is_tuple [rw3 e lo hi, .int 3] = .ok (.bool true) := by
  simp [m_is_tuple, b_is_tuple, rw3, eqOk_int, h]
theorem wish_true (a c s : Iv) (ha : okI a) (hc : okI c) (hs : okI s) : m_is_wish [.tuple (wishD a c s)] = .ok (.bool true) := by
  have t1 := fun lo hi => tuple3 "al" lo hi word_al
  have t2 := fun lo hi => tuple3 "cu" lo hi word_cu
  have t3 := fun lo hi => tuple3 "si" lo hi word_si
  unfold rw3 at t1 t2 t3
  rcases a with _ | ⟨a1, a2⟩ <;> rcases c with _ | ⟨c1, c2⟩ <;> rcases s with _ | ⟨s1, s2⟩ <;> simp only [okI] at ha hc hs <;>
    simp [m_is_wish, b_is_wish, c_is_wish_1, c_is_wish_2, m_rise, b_rise, c_rise_1, wishD, opt3, rw3, t1, t2, t3, whole_int, cut1, cut1_nil, lt_ac, lt_as, lt_cs, ha, hc, hs] <;> try omega
/-! ### sorting the names -/
theorem le_ac : leD (.str "al") (.str "cu") = true := by decide +kernel
theorem le_as : leD (.str "al") (.str "si") = true := by decide +kernel
theorem le_cs : leD (.str "cu") (.str "si") = true := by decide +kernel
theorem le_ca : leD (.str "cu") (.str "al") = false := by decide +kernel
theorem le_sa : leD (.str "si") (.str "al") = false := by decide +kernel
theorem le_sc : leD (.str "si") (.str "cu") = false := by decide +kernel
theorem ne_ac : ¬ (("al" : Str) = "cu") := by decide
theorem ne_as : ¬ (("al" : Str) = "si") := by decide
theorem ne_cs : ¬ (("cu" : Str) = "si") := by decide
theorem ne_ca : ¬ (("cu" : Str) = "al") := by decide
theorem ne_sa : ¬ (("si" : Str) = "al") := by decide
theorem ne_sc : ¬ (("si" : Str) = "cu") := by decide
/-! ### both_of -/
def cmb : Iv → Iv → Iv
  | none, none => none
  | none, some p => some p
  | some p, none => some p
  | some (l, h), some (l', h') => some (max l l', min h h')
def bad : Iv → Prop
  | none => False
  | some (l, h) => h < l
instance (o : Iv) : Decidable (bad o) := by cases o <;> unfold bad <;> infer_instance
theorem ite_iff {α : Type} {P Q : Prop} [Decidable P] [Decidable Q] {u v : α} (h : P ↔ Q) : (if P then u else v) = if Q then u else v := by
  by_cases p : P
  · rw [if_pos p, if_pos (h.mp p)]
  · rw [if_neg p, if_neg (fun q => p (h.mpr q))]
theorem both_eq (a c s a' c' s' : Iv) : m_both_of [.tuple (wishD a c s), .tuple (wishD a' c' s')] = if bad (cmb a a') ∨ bad (cmb c c') ∨ bad (cmb s s') then .ok .none else .ok (.tuple (wishD (cmb a a') (cmb c c') (cmb s s'))) := by
  rcases a with _ | ⟨a1, a2⟩ <;> rcases c with _ | ⟨c1, c2⟩ <;> rcases s with _ | ⟨s1, s2⟩ <;> rcases a' with _ | ⟨a3, a4⟩ <;> rcases c' with _ | ⟨c3, c4⟩ <;> rcases s' with _ | ⟨s3, s4⟩ <;>
    simp [m_both_of, b_both_of, b_both_of_1, c_both_of_1, c_both_of_2, c_both_of_3, c_both_of_4, wishD, opt3, rw3, cmb, bad, ne_ac, ne_as, ne_cs, ne_ca, ne_sa, ne_sc, sortL, List.mergeSort, List.cons_merge_cons, le_ac, le_as, le_cs, le_ca, le_sa, le_sc, Int.max_comm, Int.min_comm] <;> exact ite_iff (by omega)
end Mi
set_option Elab.async false
set_option linter.all false
set_option maxRecDepth 100000
set_option maxHeartbeats 4000000
namespace Mi
open PySem L2
/-! ### rising tuples of so many names -/
def combs : Nat → List Str → List (List Str)
  | 0, _ => [[]]
  | _ + 1, [] => []
  | k + 1, x :: xs => (combs k xs).map (x :: ·) ++ combs (k + 1) xs
def tupS (l : List Str) : D := .tuple (l.map .str)
def seqD (b : Bool) (l : List Str) : D := if b = true then .list (l.map .str) else .tuple (l.map .str)
theorem combs_len : ∀ (l : List Str) (k : Nat), (combs k l).length ≤ 2 ^ l.length
  | l, 0 => by cases l <;> simp [combs] <;> exact Nat.one_le_two_pow
  | [], k + 1 => by simp [combs]
  | x :: xs, k + 1 => by
    have a := combs_len xs k
    have b := combs_len xs (k + 1)
    simp only [combs, List.length_append, List.length_map, List.length_cons, Nat.pow_succ]
    omega
theorem combs_size (l : List Str) : ∀ (k : Nat), ∀ c ∈ combs k l, c.length = k := by
  induction l with
  | nil => intro k c h; cases k with
    | zero => simp [combs] at h; simp [h]
    | succ k => simp [combs] at h
  | cons x xs ih =>
    intro k c h
    cases k with
    | zero => simp [combs] at h; simp [h]
    | succ k =>
      simp only [combs, List.mem_append, List.mem_map] at h
      rcases h with ⟨d, hd, rfl⟩ | h
      · simp [ih k d hd]
      · exact ih (k + 1) c h
theorem combs_nil : ∀ (l : List Str) (k : Nat), l.length < k → combs k l = []
  | _, 0, h => by omega
  | [], k + 1, _ => rfl
  | x :: xs, k + 1, h => by
    simp at h
    rw [combs, combs_nil xs k (by omega), combs_nil xs (k + 1) (by omega)]; rfl
@[simp] theorem enumA_list {xs : List D} : enumA [.list xs] = .ok (enumD 0 xs) := rfl
@[simp] theorem enumA_tuple {xs : List D} : enumA [.tuple xs] = .ok (enumD 0 xs) := rfl
theorem cut_at (b : Bool) (pre : List Str) (x : Str) (xs : List Str) : sliceD (seqD b (pre ++ x :: xs)) (some ((pre.length : Int) + 1)) none = .ok (seqD b xs) := by
  have h : cutD ((pre ++ x :: xs).map D.str) (some ((pre.length : Int) + 1)) none = xs.map D.str := by
    have := cut_from D.str (pre ++ x :: xs) (pre.length + 1) (by simp)
    rw [show (((pre.length + 1 : Nat)) : Int) = (pre.length : Int) + 1 by omega] at this
    rw [this]
    have : (pre ++ x :: xs).drop (pre.length + 1) = xs := by simp [List.drop_append]
    rw [this]
  unfold seqD
  cases b
  · show Res.ok (D.tuple (cutD _ _ _)) = _
    rw [h]; rfl
  · show Res.ok (D.list (cutD _ _ _)) = _
    rw [h]; rfl
theorem sub_loop {b : Bool} {k : Nat} {r : List D → Res D} (hr : ∀ l : List Str, l.length ≤ 12 → r [seqD b l, .int k] = .ok (.list ((combs k l).map tupS))) (names : List Str) (hn : names.length ≤ 12) : ∀ (rest pre : List Str) (acc : List (List Str)) (a1 a2 : Option S), names = pre ++ rest → acc.length + 2 ^ rest.length ≤ 10000 → ∃ a1' a2',
    forD (setT [3, 4]) (b_subsets_1 r) (enumD pre.length (rest.map .str)) [some (.d (seqD b names)), some (.d (.int ((k : Int) + 1))), some (.d (.list (acc.map tupS))), a1, a2, none, none] =
      .ok .nx [some (.d (seqD b names)), some (.d (.int ((k : Int) + 1))), some (.d (.list ((acc ++ combs (k + 1) rest).map tupS))), a1', a2', none, none]
  | [], pre, acc, a1, a2, _, _ => ⟨a1, a2, by simp [combs, enumD]⟩
  | x :: xs, pre, acc, a1, a2, e, hl => by
    have lx : xs.length ≤ 12 := by rw [e] at hn; simp at hn; omega
    have hc := compL_mapT (os := [5]) (gt := setD 5) (el := c_subsets_1 r) (enc := tupS) (f := fun l => tupS (x :: l)) (l := combs k xs)
      (ρ := [some (.d (seqD b names)), some (.d (.int ((k : Int) + 1))), some (.d (.list (acc.map tupS))), some (.d (.int pre.length)), some (.d (.str x)), none, none])
      (by have := combs_len xs k; have : 2 ^ xs.length ≤ 2 ^ 12 := Nat.pow_le_pow_right (by decide) lx; omega) (by simp) fun l m => by
        have hz := combs_size xs k l m
        refine ⟨[some (.d (seqD b names)), some (.d (.int ((k : Int) + 1))), some (.d (.list (acc.map tupS))), some (.d (.int pre.length)), some (.d (.str x)), some (.d (tupS l)), none], by simp, by simp, ?_⟩
        have hk : l.length ≤ 100 := by
          have : combs k xs ≠ [] := by intro z; rw [z] at m; simp at m
          have : k ≤ xs.length := by
            rcases Nat.lt_or_ge xs.length k with q | q
            · exact absurd (combs_nil xs k q) this
            · exact q
          omega
        have h2 : 1 + l.length ≤ 16777216 := by omega
        simp [c_subsets_1, tupS, h2]
    have c1 := combs_len xs k
    have c2 := combs_len xs (k + 1)
    have pw : 2 ^ (x :: xs).length = 2 ^ xs.length + 2 ^ xs.length := by simp [Nat.pow_succ]; omega
    have sl : acc.length + (combs k xs).length ≤ 16777216 := by rw [pw] at hl; omega
    have step : b_subsets_1 r [some (.d (seqD b names)), some (.d (.int ((k : Int) + 1))), some (.d (.list (acc.map tupS))), some (.d (.int pre.length)), some (.d (.str x)), none, none] =
        .ok .nx [some (.d (seqD b names)), some (.d (.int ((k : Int) + 1))), some (.d (.list ((acc ++ (combs k xs).map (x :: ·)).map tupS))), some (.d (.int pre.length)), some (.d (.str x)), none, none] := by
      have h1 := cut_at b pre x xs
      rw [← e] at h1
      have h2 := hr xs lx
      unfold b_subsets_1
      simp [-compL_ap, h1, h2, hc, sl]
    obtain ⟨a1', a2', ih⟩ := sub_loop hr names hn xs (pre ++ [x]) (acc ++ (combs k xs).map (x :: ·)) (some (.d (.int pre.length))) (some (.d (.str x))) (by rw [e]; simp) (by simp; rw [pw] at hl; omega)
    refine ⟨a1', a2', ?_⟩
    rw [List.length_append] at ih
    rw [List.map_cons, enumD, forD_cons]
    simp only [setT, setMany]
    simp [step]
    simp at ih
    rw [ih]
    simp [combs]
theorem subsets_eq (b : Bool) : ∀ (n k : Nat) (names : List Str), k < n → names.length ≤ 12 → m_subsets n [seqD b names, .int k] = .ok (.list ((combs k names).map tupS))
  | 0, _, _, h, _ => by omega
  | n + 1, 0, names, _, _ => by
    show runF 6 2 (b_subsets (m_subsets n)) _ = _
    cases names <;> cases b <;> simp [b_subsets, seqD, combs, tupS, eqOk_int]
  | n + 1, k + 1, names, h, hn => by
    have hp : 2 ^ names.length ≤ 2 ^ 12 := Nat.pow_le_pow_right (by decide) hn
    obtain ⟨a1, a2, e⟩ := sub_loop (b := b) (k := k) (r := m_subsets n) (fun l hl => subsets_eq b n k l (by omega) hl) names hn names [] [] none none rfl (by simp; omega)
    have hk : ¬ ((k : Int) + 1 = 0) := by omega
    show runF 6 2 (b_subsets (m_subsets n)) [seqD b names, .int ((k + 1 : Nat) : Int)] = _
    rw [show ((k + 1 : Nat) : Int) = (k : Int) + 1 by omega]
    have en : enumA [seqD b names] = .ok (enumD 0 (names.map .str)) := by cases b <;> rfl
    simp at e
    simp [b_subsets, eqOk_int, hk, en, e]
theorem tuples_same : ∀ n, m__law_tuples n = m_subsets n
  | 0 => rfl
  | n + 1 => by
    show runF 6 2 (b__law_tuples (m__law_tuples n)) = runF 6 2 (b_subsets (m_subsets n))
    rw [tuples_same n]; rfl
end Mi
set_option Elab.async false
set_option linter.all false
set_option maxRecDepth 100000
set_option maxHeartbeats 4000000
namespace Mi
open PySem L2
/-! ### forms, and what their wishes let by -/
abbrev W3 := Iv × Iv × Iv
abbrev Frm := Str × Int × W3
def encW3 (w : W3) : D := .tuple (wishD w.1 w.2.1 w.2.2)
def eF (f : Frm) : D := .tuple [.str f.1, .int f.2.1, encW3 f.2.2]
def encF (fs : List Frm) : D := .list (fs.map eF)
def cmb3 (a b : W3) : W3 := (cmb a.1 b.1, cmb a.2.1 b.2.1, cmb a.2.2 b.2.2)
def bad3 (a : W3) : Prop := bad a.1 ∨ bad a.2.1 ∨ bad a.2.2
instance (a : W3) : Decidable (bad3 a) := by unfold bad3; infer_instance
def ok3 (a : W3) : Prop := okI a.1 ∧ okI a.2.1 ∧ okI a.2.2
def w0 : W3 := (none, none, none)
theorem bad_cmb {a b : Iv} (h : bad a) : bad (cmb a b) := by
  rcases a with _ | ⟨l, h1⟩
  · exact h.elim
  · rcases b with _ | ⟨l2, h2⟩
    · exact h
    · simp only [cmb, bad] at h ⊢; omega
theorem bad3_cmb {a b : W3} (h : bad3 a) : bad3 (cmb3 a b) := by
  rcases h with h | h | h
  · exact .inl (bad_cmb h)
  · exact .inr (.inl (bad_cmb h))
  · exact .inr (.inr (bad_cmb h))
def meetW (a : W3) (fs : List Frm) (names : List Str) : W3 := fs.foldl (fun a f => if f.1 ∈ names then cmb3 a f.2.2 else a) a
theorem meetW_bad : ∀ (fs : List Frm) (names : List Str) (a : W3), bad3 a → bad3 (meetW a fs names)
  | [], _, _, h => h
  | f :: fs, names, a, h => by
    show bad3 (meetW (if f.1 ∈ names then cmb3 a f.2.2 else a) fs names)
    refine meetW_bad fs names _ ?_
    split
    · exact bad3_cmb h
    · exact h
def meetB (fs : List Frm) (names : List Str) : Bool := !decide (bad3 (meetW w0 fs names))
theorem in_tupS (u : Str) (l : List Str) : dIn (.str u) (tupS l) = .ok (.bool (decide (u ∈ l))) := by
  have h : inB0 (.str u) (tupS l) = some (decide (u ∈ l)) := by
    show (if flatD (.str u) = true ∧ (l.map D.str).all flatD = true then some (inSeq (.str u) (l.map D.str)) else none) = _
    rw [if_pos ⟨rfl, by rw [List.all_map]; exact List.all_eq_true.mpr fun _ _ => rfl⟩]
    congr 1
    unfold inSeq
    rw [List.any_map, Bool.eq_iff_iff]
    simp only [List.any_eq_true, Function.comp, eqv_str, decide_eq_true_eq]
    exact ⟨fun ⟨x, h1, h2⟩ => h2 ▸ h1, fun h => ⟨u, h, rfl⟩⟩
  unfold dIn
  rw [h]
theorem both3 (a b : W3) : m_both_of [encW3 a, encW3 b] = if bad3 (cmb3 a b) then .ok .none else .ok (encW3 (cmb3 a b)) := both_eq _ _ _ _ _ _
theorem meet_loop (F N : D) (names : List Str) (hin : ∀ u, dIn (.str u) N = .ok (.bool (decide (u ∈ names)))) : ∀ (fs : List Frm) (acc : W3) (a b c : Option S), ¬ bad3 acc → ∃ ρ',
    forD (setT [3, 4, 5]) b_do_meet_1 (fs.map eF) [some (.d F), some (.d N), some (.d (encW3 acc)), a, b, c, none] =
      if bad3 (meetW acc fs names) then .ok (.rt (.bool false)) ρ' else .ok .nx ρ'
  | [], acc, a, b, c, h => ⟨[some (.d F), some (.d N), some (.d (encW3 acc)), a, b, c, none], by rw [if_neg (show ¬ bad3 (meetW acc [] names) from h)]; rfl⟩
  | f :: fs, acc, a, b, c, h => by
    have hi := hin f.1
    rw [List.map_cons, forD_cons]
    show ∃ ρ', forG (setT [3, 4, 5]) b_do_meet_1 (fs.map eF) (setT [3, 4, 5] (eF f) [some (.d F), some (.d N), some (.d (encW3 acc)), a, b, c, none]) = if bad3 (meetW (if f.1 ∈ names then cmb3 acc f.2.2 else acc) fs names) then _ else _
    by_cases m : f.1 ∈ names
    · rw [if_pos m]
      have hb := both3 acc f.2.2
      by_cases z : bad3 (cmb3 acc f.2.2)
      · rw [if_pos z] at hb
        refine ⟨[some (.d F), some (.d N), some (.d .none), some (.d (.str f.1)), some (.d (.int f.2.1)), some (.d (encW3 f.2.2)), none], ?_⟩
        rw [if_pos (meetW_bad fs names _ z)]
        simp [eF, b_do_meet_1, hi, m, hb, -dIn_ap]
      · rw [if_neg z] at hb
        obtain ⟨ρ', ih⟩ := meet_loop F N names hin fs (cmb3 acc f.2.2) (some (.d (.str f.1))) (some (.d (.int f.2.1))) (some (.d (encW3 f.2.2))) z
        refine ⟨ρ', ?_⟩
        rw [← ih]
        simp [eF, b_do_meet_1, hi, m, hb, -dIn_ap]
        have : isNone (encW3 (cmb3 acc f.2.2)) = false := rfl
        simp [this]
    · rw [if_neg m]
      obtain ⟨ρ', ih⟩ := meet_loop F N names hin fs acc (some (.d (.str f.1))) (some (.d (.int f.2.1))) (some (.d (encW3 f.2.2))) h
      refine ⟨ρ', ?_⟩
      rw [← ih]
      simp [eF, b_do_meet_1, hi, m, -dIn_ap]
theorem do_meet_gen (fs : List Frm) (N : D) (names : List Str) (hin : ∀ u, dIn (.str u) N = .ok (.bool (decide (u ∈ names)))) : m_do_meet [encF fs, N] = .ok (.bool (meetB fs names)) := by
  have n0 : ¬ bad3 w0 := by unfold bad3 w0 bad; simp
  obtain ⟨ρ', e⟩ := meet_loop (encF fs) N names hin fs w0 none none none n0
  have e0 : encW3 w0 = .tuple [] := rfl
  rw [e0] at e
  unfold m_do_meet b_do_meet meetB
  have ef : encF fs = .list (fs.map eF) := rfl
  by_cases z : bad3 (meetW w0 fs names)
  · rw [if_pos z] at e
    rw [ef] at e ⊢
    simp [e, z]
  · rw [if_neg z] at e
    rw [ef] at e ⊢
    simp [e, z]
theorem do_meet_eq (fs : List Frm) (names : List Str) : m_do_meet [encF fs, tupS names] = .ok (.bool (meetB fs names)) := do_meet_gen fs _ names fun u => in_tupS u names
end Mi
set_option Elab.async false
set_option linter.all false
set_option maxRecDepth 100000
set_option maxHeartbeats 4000000
namespace Mi
open PySem L2
def partB (fs : List Frm) (names : List Str) : Bool := !(combs 2 names).any (meetB fs)
theorem parted_eq (fs : List Frm) (names : List Str) (hn : names.length ≤ 12) : m_parted [encF fs, tupS names] = .ok (.bool (partB fs names)) := by
  have hs := subsets_eq false 14 2 names (by decide) hn
  have e0 : seqD false names = tupS names := rfl
  rw [e0] at hs
  have cl := combs_len names 2
  have hp : 2 ^ names.length ≤ 2 ^ 12 := Nat.pow_le_pow_right (by decide) hn
  have hc := compL_mapT (os := [2]) (gt := setD 2) (el := c_parted_1) (enc := tupS) (f := fun l => .bool (meetB fs l)) (l := combs 2 names) (ρ := [some (.d (encF fs)), some (.d (tupS names)), none, none]) (by omega) (by simp) fun l m =>
    ⟨[some (.d (encF fs)), some (.d (tupS names)), some (.d (tupS l)), none], by simp, by simp, by simp [c_parted_1, do_meet_eq]⟩
  have ha := dAny_map (meetB fs) (combs 2 names)
  have hs' : m_subsets 14 [tupS names, .int 2] = .ok (.list ((combs 2 names).map tupS)) := hs
  unfold m_parted b_parted
  simp [-compL_ap, hs', hc, toBools_map, partB]
def apartN (fs : List Frm) (names : List Str) : Nat → List Str
  | 0 => []
  | k + 1 => match (combs (k + 1) names).find? (partB fs) with
    | some l => l
    | none => apartN fs names k
theorem downTo_succ (k : Nat) : downTo ((k + 1 : Nat) : Int) (k + 1) = .int ((k + 1 : Nat) : Int) :: downTo (k : Int) k := by
  unfold downTo
  rw [List.range_succ_eq_map, List.map_cons, List.map_map]
  have h0 : (((k + 1 : Nat)) : Int) + ((0 : Nat) : Int) * (-1) = ((k + 1 : Nat) : Int) := by omega
  rw [h0]
  refine congrArg _ (List.map_congr_left fun i _ => ?_)
  show D.int _ = D.int _
  have : (((k + 1 : Nat)) : Int) + ((i + 1 : Nat) : Int) * (-1) = (k : Int) + (i : Int) * (-1) := by omega
  exact congrArg _ this
theorem comb_short {names : List Str} {k : Nat} {l : List Str} (m : l ∈ combs k names) (hn : names.length ≤ 12) : l.length ≤ 12 := by
  have h1 := combs_size names k l m
  rcases Nat.lt_or_ge names.length k with q | q
  · rw [combs_nil names k q] at m; simp at m
  · omega
theorem apart_loop (fs : List Frm) (names : List Str) (hn : names.length ≤ 12) : ∀ (k : Nat) (a b : Option S), k ≤ 12 → ∃ ρ',
    forD (setD 2) b_most_apart_2 (downTo (k : Int) k) [some (.d (encF fs)), some (.d (.list (names.map .str))), a, b, none, none] =
      (if apartN fs names k = [] then .ok .nx ρ' else .ok (.rt (tupS (apartN fs names k))) ρ')
  | 0, a, b, _ => ⟨_, by simp [downTo, apartN]; rfl⟩
  | k + 1, a, b, hk => by
    have hs : m_subsets 14 [.list (names.map .str), .int ((k + 1 : Nat) : Int)] = .ok (.list ((combs (k + 1) names).map tupS)) := subsets_eq true 14 (k + 1) names (by omega) hn
    have hf := forD_find (gt := setD 3) (s := b_most_apart_1) (enc := tupS) (fun ρ => ∃ b, ρ = [some (.d (encF fs)), some (.d (.list (names.map .str))), some (.d (.int ((k + 1 : Nat) : Int))), b, none, none]) (p := partB fs) (f := tupS) (l := combs (k + 1) names)
      (ρ := [some (.d (encF fs)), some (.d (.list (names.map .str))), some (.d (.int ((k + 1 : Nat) : Int))), b, none, none]) (fun ρ l m ⟨b, hρ⟩ => by
        subst hρ
        have hp := parted_eq fs l (comb_short m hn)
        refine ⟨[some (.d (encF fs)), some (.d (.list (names.map .str))), some (.d (.int ((k + 1 : Nat) : Int))), some (.d (tupS l)), none, none], [some (.d (encF fs)), some (.d (.list (names.map .str))), some (.d (.int ((k + 1 : Nat) : Int))), some (.d (tupS l)), none, none], by simp, ?_⟩
        cases z : partB fs l with
        | true => exact .inl ⟨rfl, by simp [b_most_apart_1, hp, z]⟩
        | false => exact .inr ⟨rfl, .inl (by simp [b_most_apart_1, hp, z]), _, rfl⟩) ⟨b, rfl⟩
    rw [downTo_succ, forD_cons]
    generalize ((k + 1 : Nat) : Int) = KK at *
    have body : b_most_apart_2 [some (.d (encF fs)), some (.d (.list (names.map .str))), some (.d (.int KK)), b, none, none] = forD (setD 3) b_most_apart_1 ((combs (k + 1) names).map tupS) [some (.d (encF fs)), some (.d (.list (names.map .str))), some (.d (.int KK)), b, none, none] := by
      unfold b_most_apart_2
      simp [hs, -forD_cons]
    have start : setD 2 (.int KK) [some (.d (encF fs)), some (.d (.list (names.map .str))), a, b, none, none] = some [some (.d (encF fs)), some (.d (.list (names.map .str))), some (.d (.int KK)), b, none, none] := by simp
    rw [start, forG_some, body]
    rcases hf with ⟨l, ρ', hl, e⟩ | ⟨hl, ρ', e, b', hρ⟩
    · refine ⟨ρ', ?_⟩
      rw [e]
      have h1 : apartN fs names (k + 1) = l := by rw [apartN, hl]
      have h2 : l ≠ [] := by
        have := combs_size names (k + 1) l (List.mem_of_find?_eq_some hl)
        intro z; rw [z] at this; simp at this
      rw [h1, if_neg h2]
      rfl
    · subst hρ
      rw [e, forK_nx]
      obtain ⟨ρ'', ih⟩ := apart_loop fs names hn k (some (.d (.int KK))) b' (by omega)
      refine ⟨ρ'', ?_⟩
      rw [ih]
      have h1 : apartN fs names (k + 1) = apartN fs names k := by rw [apartN, hl]
      rw [h1]
theorem sortOk_strs (l : List Str) : sortOk (l.map .str) = true := by
  have h1 : alikeB (l.map .str) = true := by
    unfold alikeB
    rw [List.all_map]
    refine List.all_eq_true.mpr fun x _ => ?_
    show ((l.map D.str).all fun d' => PySem.W.alike (D.str x).py d'.py) = true
    rw [List.all_map]
    exact List.all_eq_true.mpr fun y _ => by show PySem.W.alike (.str x) (.str y) = true; rw [PySem.W.alike]
  have h2 : sortB (l.map .str) = true := by
    unfold sortB
    rw [Bool.or_eq_true]
    refine .inr ?_
    rw [List.all_map]
    exact List.all_eq_true.mpr fun _ _ => rfl
  have h3 : ∀ l : List Str, noDicts (l.map .str) = true := fun l => by
    induction l with
    | nil => rfl
    | cons x xs ih => rw [List.map_cons, noDicts, ih]; rfl
  have h4 : ((l.map D.str).all fun d => decide (d.depth ≤ 60)) = true := by
    rw [List.all_map]
    exact List.all_eq_true.mpr fun x _ => by show decide (D.depth (.str x) ≤ 60) = true; simp [D.depth, D.py, PyData.depth]
  unfold sortOk
  rw [h1, h2, h3, h4]; rfl
theorem sorted_names {l : List Str} (h : l.Pairwise fun a b => leD (.str a) (.str b) = true) : dSorted [.list (l.map .str)] = .ok (.list (l.map .str)) := by
  show (if sortOk (l.map .str) = true then Res.ok (D.list (sortL (l.map .str))) else .stuck) = _
  rw [if_pos (sortOk_strs l), sort_id]
  rw [List.pairwise_map]; exact h
theorem inB_0 : inB 0 = true := by decide
theorem inB_of {i : Int} (h0 : 0 ≤ i) (h1 : i ≤ 1000000) : inB i = true := by
  unfold inB
  have a : decide (-(2 ^ 62) ≤ i) = true := decide_eq_true (Int.le_trans (by decide) h0)
  have b : decide (i < 2 ^ 62) = true := decide_eq_true (Int.lt_of_le_of_lt h1 (by decide))
  rw [a, b]; rfl
theorem inB_nat {n : Nat} (h : n ≤ 1000000) : inB (n : Int) = true := inB_of (by omega) (by omega)
theorem range3_down {i : Int} {n : Nat} (h : inB i = true) (hn : i = n) : range3 [.int i, .int 0, .int (-1)] = .ok (downTo i n) := by
  have e : (i - 0).toNat = n := by omega
  show (if inB i = true ∧ inB 0 = true ∧ (-1 : Int) = -1 then Res.ok (downTo i (i - 0).toNat) else Res.stuck) = _
  rw [if_pos ⟨h, inB_0, rfl⟩, e]
theorem ma_names (fs : List Frm) (hl : fs.length ≤ 12) : compL [4] (setD 4) (MM.pure true) c_most_apart_1 (fs.map eF) [some (.d (encF fs)), none, none, none, none, none] = .ok (.list ((fs.map (·.1)).map .str)) [some (.d (encF fs)), none, none, none, none, none] := by
  have hc := compL_mapT (os := [4]) (gt := setD 4) (el := c_most_apart_1) (enc := eF) (f := fun f => .str f.1) (l := fs) (ρ := [some (.d (encF fs)), none, none, none, none, none]) (by omega) (by simp) fun f m =>
    ⟨[some (.d (encF fs)), none, none, none, some (.d (eF f)), none], by simp, by simp, by simp [c_most_apart_1, eF]⟩
  have e1 : fs.map (fun f => D.str f.1) = (fs.map (·.1)).map .str := by rw [List.map_map]; rfl
  rw [e1] at hc
  exact hc
theorem ma_body {F N : D} {xs : List D} {LL : Int} {ds : List D} {o : Out Fl} (h0 : iterAll F = .ok xs) (h1 : compL [4] (setD 4) (MM.pure true) c_most_apart_1 xs [some (.d F), none, none, none, none, none] = .ok N [some (.d F), none, none, none, none, none]) (h2 : dSorted [N] = .ok N) (h3 : dLen [N] = .ok (.int LL)) (h4 : range3 [.int LL, .int 0, .int (-1)] = .ok ds)
    (h5 : forD (setD 2) b_most_apart_2 ds [some (.d F), some (.d N), none, none, none, none] = o) : m_most_apart [F] = endF (seqK (retS (MM.bind (MM.pure []) fun xs => lift (mkT xs))) o) := by
  unfold m_most_apart b_most_apart
  simp [-compL_ap, h0, h1, h2, h3, h4, h5, -dSorted_list, -dLen_list]
theorem most_apart_eq (fs : List Frm) (hl : fs.length ≤ 12) (hs : (fs.map (·.1)).Pairwise fun a b => leD (.str a) (.str b) = true) : m_most_apart [encF fs] = .ok (tupS (apartN fs (fs.map (·.1)) fs.length)) := by
  obtain ⟨ρ', e⟩ := apart_loop fs (fs.map (·.1)) (by simpa using hl) fs.length none none hl
  rw [ma_body (LL := (fs.length : Int)) rfl (ma_names fs hl) (sorted_names hs) (by rw [dLen_list]; simp) (range3_down (inB_nat (by omega)) rfl) e]
  by_cases z : apartN fs (fs.map (·.1)) fs.length = []
  · rw [if_pos z, z]
    rfl
  · rw [if_neg z]
    rfl
end Mi
set_option Elab.async false
set_option linter.all false
set_option maxRecDepth 100000
set_option maxHeartbeats 4000000
namespace Mi
open PySem L2
/-! ### the law's own look at wishes -/
theorem eqv_str_iff {d : D} {u : Str} : D.eqv d (.str u) = true ↔ d = .str u := by
  cases d <;> simp [D.eqv, D.py, PyData.eqv]
theorem valAt_put (kvs : List (D × D)) (u e : Str) (v : D) : valAt (putD kvs (.str u) v) (.str e) = if u = e then some v else valAt kvs (.str e) := by
  have rep : ∀ kvs : List (D × D), valAt (kvs.map fun kv => if D.eqv kv.1 (.str u) = true then (kv.1, v) else kv) (.str e) = if u = e ∧ hasKey (.str u) kvs = true then some v else valAt kvs (.str e) := by
    intro kvs
    induction kvs with
    | nil => simp [valAt, hasKey]
    | cons kv kvs ih =>
      rw [List.map_cons, valAt_cons, hasKey_cons, ih, valAt_cons]
      by_cases h1 : D.eqv kv.1 (.str u) = true
      · have h2 := eqv_str_iff.mp h1
        rw [if_pos h1, h1]
        simp only [h2, eqv_str, Bool.true_or, and_true]
        by_cases z : u = e
        · simp [z]
        · simp [z]
      · have h1' : D.eqv kv.1 (.str u) = false := by simpa using h1
        rw [if_neg h1, h1', Bool.false_or]
        by_cases h3 : D.eqv kv.1 (.str e) = true
        · have h4 := eqv_str_iff.mp h3
          have hne : ¬ u = e := fun z => h1 (by rw [h4, z]; simp)
          simp [h3, hne]
        · have h3' : D.eqv kv.1 (.str e) = false := by simpa using h3
          simp [h3']
  have app : ∀ kvs : List (D × D), hasKey (.str u) kvs = false → valAt (kvs ++ [(.str u, v)]) (.str e) = if u = e then some v else valAt kvs (.str e) := by
    intro kvs
    induction kvs with
    | nil => intro _; rw [List.nil_append, valAt_cons]; by_cases z : u = e <;> simp [z, valAt]
    | cons kv kvs ih =>
      intro hk
      rw [hasKey_cons, Bool.or_eq_false_iff] at hk
      rw [List.cons_append, valAt_cons, ih hk.2, valAt_cons]
      by_cases h3 : D.eqv kv.1 (.str e) = true
      · have h4 := eqv_str_iff.mp h3
        have hne : ¬ u = e := fun z => by rw [h4, z] at hk; simp at hk
        simp [h3, hne]
      · have h3' : D.eqv kv.1 (.str e) = false := by simpa using h3
        simp [h3']
  rw [putD_ap]
  by_cases hk : hasKey (.str u) kvs = true
  · rw [if_pos hk, rep]; simp [hk]
  · rw [if_neg hk, app kvs (by simpa using hk)]
theorem put_keys {kvs : List (D × D)} {u : Str} {v : D} {P : D → Prop} (h : ∀ p ∈ kvs, P p.1) (hu : P (.str u)) : ∀ p ∈ putD kvs (.str u) v, P p.1 := by
  intro p m
  rw [putD_ap] at m
  split at m
  · obtain ⟨q, mq, rfl⟩ := List.mem_map.mp m
    split
    · exact h q mq
    · exact h q mq
  · rcases List.mem_append.mp m with m | m
    · exact h p m
    · simp at m; rw [m]; exact hu
theorem put_len (kvs : List (D × D)) (k v : D) : (putD kvs k v).length ≤ kvs.length + 1 := by
  rw [putD_ap]
  split <;> simp
def at3 (w : W3) (e : Str) : Iv := if e = "al" then w.1 else if e = "cu" then w.2.1 else if e = "si" then w.2.2 else none
def ivD (p : Int × Int) : D := .tuple [.int p.1, .int p.2]
/-- the rows tell the bounds -/
structure RowsOk (kvs : List (D × D)) (f : Str → Iv) (n : Nat) : Prop where
  ks : ∀ p ∈ kvs, ∃ e : Str, (e = "al" ∨ e = "cu" ∨ e = "si") ∧ p.1 = .str e
  vs : ∀ e, valAt kvs (.str e) = (f e).map ivD
  ln : kvs.length ≤ n
def addI (f : Str → Iv) (e : Str) (p : Int × Int) : Str → Iv := fun u => if e = u then cmb (f u) (some p) else f u
theorem row_step {kvs : List (D × D)} {f : Str → Iv} {n : Nat} (R : RowsOk kvs f n) (hn : n < 1000) (el : Str) (he : el = "al" ∨ el = "cu" ∨ el = "si") (lo hi : Int) (h0 : 0 ≤ lo) (h1 : hi ≤ 1000) {A B C tot nm we wi old : Option S} : ∃ kvs', RowsOk kvs' (addI f el (lo, hi)) (n + 1) ∧ ∃ old',
    b__law_one_melt_1 [A, B, C, some (.od kvs), tot, nm, we, wi, some (.d (.str el)), some (.d (.int lo)), some (.d (.int hi)), old, none, none] =
      .ok .nx [A, B, C, some (.od kvs'), tot, nm, we, wi, some (.d (.str el)), some (.d (.int lo)), some (.d (.int hi)), old', none, none] := by
  have hv := R.vs el
  have hl : kvs.length < 16777216 := by have := R.ln; omega
  have key : ∀ p : Int × Int, cmb (f el) (some (lo, hi)) = some p → RowsOk (putD kvs (.str el) (ivD p)) (addI f el (lo, hi)) (n + 1) := fun p hp => by
    refine ⟨put_keys (P := fun d => ∃ e : Str, (e = "al" ∨ e = "cu" ∨ e = "si") ∧ d = .str e) R.ks ⟨el, he, rfl⟩, fun e => ?_, by have := put_len kvs (.str el) (ivD p); have := R.ln; omega⟩
    rw [valAt_put]
    unfold addI
    by_cases z : el = e
    · subst z; rw [if_pos rfl, if_pos rfl, hp]; rfl
    · rw [if_neg z, if_neg z]; exact R.vs e
  cases hf : f el with
  | none =>
    rw [hf] at hv
    refine ⟨_, key (lo, hi) (by rw [hf]; rfl), some (.d (.tuple [.int 0, .int 1000])), ?_⟩
    have e1 : max 0 lo = lo := by omega
    have e2 : min 1000 hi = hi := by omega
    simp [b__law_one_melt_1, hv, hl, ivD, e1, e2]
  | some q =>
    obtain ⟨l, h⟩ := q
    rw [hf] at hv
    refine ⟨_, key (max l lo, min h hi) (by rw [hf]; rfl), some (.d (ivD (l, h))), ?_⟩
    simp [b__law_one_melt_1, hv, hl, ivD]
    try omega
def addO (f : Str → Iv) (e : Str) (o : Iv) : Str → Iv := fun u => if e = u then cmb (f u) o else f u
theorem cmb_none (a : Iv) : cmb a none = a := by rcases a with _ | ⟨_, _⟩ <;> rfl
theorem forD_step {gt : D → MSt → Option MSt} {s : MM Fl} {x : D} {xs : List D} {ρ ρ1 ρ2 : MSt} (h1 : gt x ρ = some ρ1) (h2 : s ρ1 = .ok .nx ρ2) : forD gt s (x :: xs) ρ = forD gt s xs ρ2 := by
  rw [forD_cons, h1, forG_some, h2, forK_nx]
theorem opt_step {kvs : List (D × D)} {f : Str → Iv} {n : Nat} (R : RowsOk kvs f n) (hn : n < 1000) (el : Str) (he : el = "al" ∨ el = "cu" ∨ el = "si") (o : Iv) (ho : okI o) {A B C tot nm we wi e l h old : Option S} (ke : keepd (some e) = e) : ∃ kvs' e' l' h' old', RowsOk kvs' (addO f el o) (n + 1) ∧ keepd (some e') = e' ∧ ∀ rest,
    forD (setT [8, 9, 10]) b__law_one_melt_1 (opt3 el o ++ rest) [A, B, C, some (.od kvs), tot, nm, we, wi, e, l, h, old, none, none] =
      forD (setT [8, 9, 10]) b__law_one_melt_1 rest [A, B, C, some (.od kvs'), tot, nm, we, wi, e', l', h', old', none, none] := by
  rcases o with _ | ⟨lo, hi⟩
  · refine ⟨kvs, e, l, h, old, ⟨R.ks, fun u => ?_, by have := R.ln; omega⟩, ke, fun rest => rfl⟩
    unfold addO
    split
    · rw [cmb_none]; exact R.vs u
    · exact R.vs u
  · obtain ⟨kvs', R', old', e1⟩ := row_step R hn el he lo hi ho.1 ho.2.2 (A := A) (B := B) (C := C) (tot := tot) (nm := nm) (we := we) (wi := wi) (old := old)
    exact ⟨kvs', _, _, _, old', R', rfl, fun rest => forD_step (by simp [rw3]) e1⟩
theorem at3_cmb (a b : W3) (e : Str) : at3 (cmb3 a b) e = cmb (at3 a e) (at3 b e) := by
  unfold at3 cmb3
  split
  · rfl
  · split
    · rfl
    · split
      · rfl
      · rfl
theorem wish_rows {kvs : List (D × D)} {acc : W3} {n : Nat} (R : RowsOk kvs (at3 acc) n) (hn : n < 900) (w : W3) (ok : ok3 w) {A B C tot nm we wi e l h old : Option S} (ke : keepd (some e) = e) : ∃ kvs' e' l' h' old', RowsOk kvs' (at3 (cmb3 acc w)) (n + 3) ∧ keepd (some e') = e' ∧
    forD (setT [8, 9, 10]) b__law_one_melt_1 (wishD w.1 w.2.1 w.2.2) [A, B, C, some (.od kvs), tot, nm, we, wi, e, l, h, old, none, none] = .ok .nx [A, B, C, some (.od kvs'), tot, nm, we, wi, e', l', h', old', none, none] := by
  obtain ⟨k1, e1, l1, h1, o1, R1, ke1, q1⟩ := opt_step (ke := ke) R (by omega) "al" (.inl rfl) w.1 ok.1 (A := A) (B := B) (C := C) (tot := tot) (nm := nm) (we := we) (wi := wi) (e := e) (l := l) (h := h) (old := old)
  obtain ⟨k2, e2, l2, h2, o2, R2, ke2, q2⟩ := opt_step (ke := ke1) R1 (by omega) "cu" (.inr (.inl rfl)) w.2.1 ok.2.1 (A := A) (B := B) (C := C) (tot := tot) (nm := nm) (we := we) (wi := wi) (e := e1) (l := l1) (h := h1) (old := o1)
  obtain ⟨k3, e3', l3, h3, o3, R3, ke3, q3⟩ := opt_step (ke := ke2) R2 (by omega) "si" (.inr (.inr rfl)) w.2.2 ok.2.2 (A := A) (B := B) (C := C) (tot := tot) (nm := nm) (we := we) (wi := wi) (e := e2) (l := l2) (h := h2) (old := o2)
  refine ⟨k3, e3', l3, h3, o3, ⟨R3.ks, fun u => ?_, R3.ln⟩, ke3, ?_⟩
  · rw [R3.vs u, at3_cmb]
    congr 1
    unfold addO at3
    by_cases a1 : u = "al"
    · subst a1; simp [ne_ca, ne_sa]
    · by_cases a2 : u = "cu"
      · subst a2; simp [ne_ac, ne_sc, a1]
      · by_cases a3 : u = "si"
        · subst a3; simp [ne_as, ne_cs, a1, a2]
        · have b1 : ¬ ("al" : Str) = u := fun z => a1 z.symm
          have b2 : ¬ ("cu" : Str) = u := fun z => a2 z.symm
          have b3 : ¬ ("si" : Str) = u := fun z => a3 z.symm
          simp [a1, a2, a3, b1, b2, b3]
          rfl
  · unfold wishD
    rw [q1, q2]
    have := q3 []
    rw [List.append_nil] at this
    rw [this]; rfl
def totW (fs : List Frm) (names : List Str) : Int := (fs.map fun f => if f.1 ∈ names then f.2.1 else 0).sum
theorem melt_loop (A B : Option S) (N : D) (names : List Str) (hin : ∀ u, dIn (.str u) N = .ok (.bool (decide (u ∈ names)))) : ∀ (fs : List Frm) (kvs : List (D × D)) (acc : W3) (n : Nat) (t : Int) (nm we wi e l h old : Option S), (∀ f ∈ fs, ok3 f.2.2) → RowsOk kvs (at3 acc) n → n + 3 * fs.length < 900 → keepd (some e) = e → ∃ kvs' n' nm' we' wi' e' l' h' old', RowsOk kvs' (at3 (meetW acc fs names)) n' ∧ n' < 900 ∧ keepd (some e') = e' ∧
    forD (setT [5, 6, 7]) b__law_one_melt_2 (fs.map eF) [A, B, some (.d N), some (.od kvs), some (.d (.int t)), nm, we, wi, e, l, h, old, none, none] =
      .ok .nx [A, B, some (.d N), some (.od kvs'), some (.d (.int (t + totW fs names))), nm', we', wi', e', l', h', old', none, none]
  | [], kvs, acc, n, t, nm, we, wi, e, l, h, old, _, R, hn, ke => ⟨kvs, n, nm, we, wi, e, l, h, old, R, by omega, ke, by simp [totW]⟩
  | f :: fs, kvs, acc, n, t, nm, we, wi, e, l, h, old, ok, R, hn, ke => by
    have hi := hin f.1
    simp at hn
    rw [List.map_cons]
    by_cases m : f.1 ∈ names
    · obtain ⟨k1, e1, l1, h1, o1, R1, ke1, q1⟩ := wish_rows (ke := ke) R (by omega) f.2.2 (ok f List.mem_cons_self) (A := A) (B := B) (C := some (.d N)) (tot := some (.d (.int (t + f.2.1)))) (nm := some (.d (.str f.1))) (we := some (.d (.int f.2.1))) (wi := some (.d (encW3 f.2.2))) (e := e) (l := l) (h := h) (old := old)
      obtain ⟨k2, n2, a1, a2, a3, a4, a5, a6, a7, R2, hn2, ke2, q2⟩ := melt_loop A B N names hin fs k1 (cmb3 acc f.2.2) (n + 3) (t + f.2.1) (some (.d (.str f.1))) (some (.d (.int f.2.1))) (some (.d (encW3 f.2.2))) e1 l1 h1 o1 (fun g m => ok g (List.mem_cons_of_mem _ m)) R1 (by omega) ke1
      refine ⟨k2, n2, a1, a2, a3, a4, a5, a6, a7, ?_, hn2, ke2, ?_⟩
      · show RowsOk k2 (at3 (meetW (if f.1 ∈ names then cmb3 acc f.2.2 else acc) fs names)) n2
        rw [if_pos m]; exact R2
      · rw [forD_step (ρ1 := [A, B, some (.d N), some (.od kvs), some (.d (.int t)), some (.d (.str f.1)), some (.d (.int f.2.1)), some (.d (encW3 f.2.2)), e, l, h, old, none, none]) (by simp [eF]) (ρ2 := [A, B, some (.d N), some (.od k1), some (.d (.int (t + f.2.1))), some (.d (.str f.1)), some (.d (.int f.2.1)), some (.d (encW3 f.2.2)), e1, l1, h1, o1, none, none]) (by
          have ew : encW3 f.2.2 = .tuple (wishD f.2.2.1 f.2.2.2.1 f.2.2.2.2) := rfl
          rw [ew] at q1 ⊢
          unfold b__law_one_melt_2
          simp [-dIn_ap, hi, m, q1]), q2]
        congr 3
        unfold totW
        rw [List.map_cons, List.sum_cons, if_pos m]
        simp [Int.add_assoc]
    · obtain ⟨k2, n2, a1, a2, a3, a4, a5, a6, a7, R2, hn2, ke2, q2⟩ := melt_loop A B N names hin fs kvs acc n t (some (.d (.str f.1))) (some (.d (.int f.2.1))) (some (.d (encW3 f.2.2))) e l h old (fun g m => ok g (List.mem_cons_of_mem _ m)) R (by omega) ke
      refine ⟨k2, n2, a1, a2, a3, a4, a5, a6, a7, ?_, hn2, ke2, ?_⟩
      · show RowsOk k2 (at3 (meetW (if f.1 ∈ names then cmb3 acc f.2.2 else acc) fs names)) n2
        rw [if_neg m]; exact R2
      · rw [forD_step (ρ1 := [A, B, some (.d N), some (.od kvs), some (.d (.int t)), some (.d (.str f.1)), some (.d (.int f.2.1)), some (.d (encW3 f.2.2)), e, l, h, old, none, none]) (by simp [eF]) (ρ2 := [A, B, some (.d N), some (.od kvs), some (.d (.int t)), some (.d (.str f.1)), some (.d (.int f.2.1)), some (.d (encW3 f.2.2)), e, l, h, old, none, none]) (by
          unfold b__law_one_melt_2
          simp [-dIn_ap, hi, m]), q2]
        congr 3
        unfold totW
        rw [List.map_cons, List.sum_cons, if_neg m]
        simp
end Mi
set_option Elab.async false
set_option linter.all false
set_option maxRecDepth 100000
set_option maxHeartbeats 4000000
namespace Mi
open PySem L2
def badV (kvs : List (D × D)) (p : D × D) : Bool := match valAt kvs p.1 with
  | some (.tuple [.int l, .int h]) => decide (h < l)
  | _ => false
theorem sok_el {e : Str} (h : e = "al" ∨ e = "cu" ∨ e = "si") : PyData.strOk e = true := by
  rcases h with rfl | rfl | rfl <;> decide +kernel
theorem has_mem {kvs : List (D × D)} {e : Str} (h : (valAt kvs (.str e)).isSome = true) : ∃ p ∈ kvs, p.1 = .str e := by
  rw [valAt_has] at h
  unfold hasKey at h
  obtain ⟨p, m, q⟩ := List.any_eq_true.mp h
  exact ⟨p, m, eqv_str_iff.mp q⟩
theorem val_key {kvs : List (D × D)} {e : Str} {p : D × D} (m : p ∈ kvs) (h : p.1 = .str e) : (valAt kvs (.str e)).isSome = true := by
  rw [valAt_has]
  exact List.any_eq_true.mpr ⟨p, m, by rw [h]; simp⟩
theorem rows_val {kvs : List (D × D)} {acc : W3} {n : Nat} (R : RowsOk kvs (at3 acc) n) {p : D × D} (m : p ∈ kvs) : ∃ (e : Str) (l h : Int), (e = "al" ∨ e = "cu" ∨ e = "si") ∧ p.1 = .str e ∧ at3 acc e = some (l, h) ∧ valAt kvs (.str e) = some (ivD (l, h)) := by
  obtain ⟨e, he, ep⟩ := R.ks p m
  have h1 := val_key m ep
  rw [R.vs e] at h1
  cases z : at3 acc e with
  | none => rw [z] at h1; cases h1
  | some q => exact ⟨e, q.1, q.2, he, ep, z, by rw [R.vs e, z]; rfl⟩
theorem bad_at {acc : W3} : bad3 acc ↔ ∃ e : Str, (e = "al" ∨ e = "cu" ∨ e = "si") ∧ bad (at3 acc e) := by
  have h1 : at3 acc "al" = acc.1 := rfl
  have h2 : at3 acc "cu" = acc.2.1 := by unfold at3; rw [if_neg ne_ca, if_pos rfl]
  have h3 : at3 acc "si" = acc.2.2 := by unfold at3; rw [if_neg ne_sa, if_neg ne_sc, if_pos rfl]
  constructor
  · rintro (h | h | h)
    · exact ⟨"al", .inl rfl, by rw [h1]; exact h⟩
    · exact ⟨"cu", .inr (.inl rfl), by rw [h2]; exact h⟩
    · exact ⟨"si", .inr (.inr rfl), by rw [h3]; exact h⟩
  · rintro ⟨e, rfl | rfl | rfl, h⟩
    · rw [h1] at h; exact .inl h
    · rw [h2] at h; exact .inr (.inl h)
    · rw [h3] at h; exact .inr (.inr h)
theorem shut_iff {kvs : List (D × D)} {acc : W3} {n : Nat} (R : RowsOk kvs (at3 acc) n) : kvs.filter (badV kvs) = [] ↔ ¬ bad3 acc := by
  rw [List.filter_eq_nil_iff, bad_at]
  constructor
  · rintro h ⟨e, he, hb⟩
    cases z : at3 acc e with
    | none => rw [z] at hb; exact hb
    | some q =>
      obtain ⟨p, m, ep⟩ := has_mem (kvs := kvs) (e := e) (by rw [R.vs e, z]; rfl)
      refine h p m ?_
      unfold badV
      rw [ep, R.vs e, z]
      rw [z] at hb
      exact decide_eq_true hb
  · intro h p m hb
    obtain ⟨e, l, hh, he, ep, ea, ev⟩ := rows_val R m
    refine h ⟨e, he, ?_⟩
    rw [ea]
    unfold badV at hb
    rw [ep, ev] at hb
    exact of_decide_eq_true hb
theorem melt_body {room total : Int} {F Nm : D} {xs : List D} {kvs : List (D × D)} {shut : D} {b : Bool} {r5 r6 r7 r8 r9 r10 r11 : Option S} (h0 : iterAll F = .ok xs)
    (h1 : forD (setT [5, 6, 7]) b__law_one_melt_2 xs [some (.d (.int room)), some (.d F), some (.d Nm), some (.od []), some (.d (.int 0)), none, none, none, none, none, none, none, none, none] = .ok .nx [some (.d (.int room)), some (.d F), some (.d Nm), some (.od kvs), some (.d (.int total)), r5, r6, r7, r8, r9, r10, r11, none, none])
    (h2 : compL [8] (setD 8) (opT dGt (op2 dIx (op2 dIx (var 3) (var 8)) (MM.pure (.int 0))) (op2 dIx (op2 dIx (var 3) (var 8)) (MM.pure (.int 1)))) c__law_one_melt_1 (keysD kvs) [some (.d (.int room)), some (.d F), some (.d Nm), some (.d (.dict kvs)), some (.d (.int total)), r5, r6, r7, r8, r9, r10, r11, none, none] = .ok shut [some (.d (.int room)), some (.d F), some (.d Nm), some (.d (.dict kvs)), some (.d (.int total)), r5, r6, r7, r8, r9, r10, r11, none, none])
    (h3 : dEq shut (.list []) = .ok (.bool b)) : m__law_one_melt [.int room, F, Nm] = .ok (.bool (decide (total ≤ room) && b)) := by
  unfold m__law_one_melt b__law_one_melt
  simp [-compL_ap, h0, h1, h2, h3, -dEq_ap]
theorem one_melt_gen (room : Int) (fs : List Frm) (N : D) (names : List Str) (hin : ∀ u, dIn (.str u) N = .ok (.bool (decide (u ∈ names)))) (hl : fs.length ≤ 12) (ok : ∀ f ∈ fs, ok3 f.2.2) : m__law_one_melt [.int room, encF fs, N] = .ok (.bool (decide (totW fs names ≤ room) && meetB fs names)) := by
  have R0 : RowsOk [] (at3 w0) 0 := ⟨by simp, fun e => by
    have : at3 w0 e = none := by unfold at3 w0; split; rfl; split; rfl; split; rfl; rfl
    rw [this]; rfl, Nat.le_refl _⟩
  obtain ⟨kvs, n', r5, r6, r7, r8, r9, r10, r11, R, hn, ke, e⟩ := melt_loop (some (.d (.int room))) (some (.d (encF fs))) N names hin fs [] w0 0 0 none none none none none none none ok R0 (by omega) rfl
  rw [Int.zero_add] at e
  have ln := R.ln
  have hc := compL_filT (os := [8]) (gt := setD 8) (t := opT dGt (op2 dIx (op2 dIx (var 3) (var 8)) (MM.pure (.int 0))) (op2 dIx (op2 dIx (var 3) (var 8)) (MM.pure (.int 1)))) (el := c__law_one_melt_1) (enc := fun p : D × D => p.1) (f := fun p => p.1) (p := badV kvs) (l := kvs)
    (ρ := [some (.d (.int room)), some (.d (encF fs)), some (.d N), some (.d (.dict kvs)), some (.d (.int (totW fs names))), r5, r6, r7, r8, r9, r10, r11, none, none]) (by omega) (by simp [ke]) fun p m => by
      obtain ⟨e, l, h, he, ep, ea, ev⟩ := rows_val R m
      refine ⟨[some (.d (.int room)), some (.d (encF fs)), some (.d N), some (.d (.dict kvs)), some (.d (.int (totW fs names))), r5, r6, r7, some (.d p.1), r9, r10, r11, none, none], by simp, by simp, ?_, fun _ => by simp [c__law_one_melt_1]⟩
      have bv : badV kvs p = decide (h < l) := by unfold badV; rw [ep, ev]; rfl
      rw [bv, ep]
      simp [ev, ivD]
  rw [show (kvs.map fun p : D × D => p.1) = keysD kvs from rfl] at hc
  have hd : dEq (.list ((kvs.filter (badV kvs)).map fun p => p.1)) (.list []) = .ok (.bool (meetB fs names)) := by
    have f1 : Flt 1 (.list ((kvs.filter (badV kvs)).map fun p => p.1)) := flt_list fun x m => by
      obtain ⟨p, mp, rfl⟩ := List.mem_map.mp m
      obtain ⟨e, he, ep⟩ := R.ks p (List.mem_filter.mp mp).1
      rw [ep]; exact flt_str (sok_el he)
    rw [dEq_ap, if_pos ⟨f1.ok, rfl⟩, eqv_list]
    have s := shut_iff R
    unfold meetB
    by_cases z : bad3 (meetW w0 fs names)
    · have : kvs.filter (badV kvs) ≠ [] := fun y => (s.mp y) z
      cases y : kvs.filter (badV kvs) with
      | nil => exact absurd y this
      | cons p l => simp [z]
    · rw [s.mpr z]; simp [z]
  exact melt_body rfl e hc hd
theorem one_melt_eq (room : Int) (fs : List Frm) (names : List Str) (hl : fs.length ≤ 12) (ok : ∀ f ∈ fs, ok3 f.2.2) : m__law_one_melt [.int room, encF fs, tupS names] = .ok (.bool (decide (totW fs names ≤ room) && meetB fs names)) := one_melt_gen room fs _ names (fun u => in_tupS u names) hl ok
end Mi
set_option Elab.async false
set_option linter.all false
set_option maxRecDepth 100000
set_option maxHeartbeats 4000000
namespace Mi
open PySem L2
/-! ### drawn forms -/
def okF (f : Frm) : Prop := 1 ≤ f.2.1 ∧ f.2.1 ≤ 9 ∧ ok3 f.2.2
theorem form_step (x y : Int) (hg : Option S) (found : List D) (hf : found.length < 1000) (u : Str) : ∃ (f : Frm) (x' y' : Int), f.1 = u ∧ okF f ∧ b__law_any_forms_1 [some (.dc [.int x, .int y]), hg, some (.ol found), some (.d (.str u)), none] = .ok .nx [some (.dc [.int x', .int y']), hg, some (.ol (found ++ [eF f])), some (.d (.str u)), none] := by
  obtain ⟨r, x1, y1, a0, a1, h1⟩ := roll_ok x y 9 (by decide) (by decide)
  obtain ⟨a, c, s, x2, y2, ha, hc, hs, h2⟩ := any_wish_ok x1 y1
  have hf' : found.length < 16777216 := by omega
  refine ⟨(u, 1 + r, (a, c, s)), x2, y2, rfl, ⟨by show 1 ≤ 1 + r; omega, by show 1 + r ≤ 9; omega, ha, hc, hs⟩, ?_⟩
  unfold b__law_any_forms_1
  simp [h1, h2, hf', eF, encW3]
theorem forms_loop (hg : Option S) : ∀ (names : List Str) (found : List D) (x y : Int) (nm : Option S), found.length + names.length < 1000 → ∃ (fs : List Frm) (x' y' : Int) (nm' : Option S), fs.map (·.1) = names ∧ (∀ f ∈ fs, okF f) ∧
    forD (setD 3) b__law_any_forms_1 (names.map .str) [some (.dc [.int x, .int y]), hg, some (.ol found), nm, none] = .ok .nx [some (.dc [.int x', .int y']), hg, some (.ol (found ++ fs.map eF)), nm', none]
  | [], found, x, y, nm, _ => ⟨[], x, y, nm, rfl, by simp, by simp⟩
  | u :: us, found, x, y, nm, h => by
    simp at h
    obtain ⟨f, x1, y1, hu, of, e1⟩ := form_step x y hg found (by omega) u
    obtain ⟨fs, x2, y2, nm', hn, ofs, e2⟩ := forms_loop hg us (found ++ [eF f]) x1 y1 (some (.d (.str u))) (by simp; omega)
    refine ⟨f :: fs, x2, y2, nm', by rw [List.map_cons, hu, hn], fun g m => ?_, ?_⟩
    · rcases List.mem_cons.mp m with rfl | m
      · exact of
      · exact ofs g m
    · rw [List.map_cons, forD_step (by simp) e1, e2]
      simp
def five5 : List Str := ["ann", "bob", "cy", "dee", "eve"]
theorem af_body {x y x1 y1 x2 y2 r : Int} {xs : List D} {fs : List D} {nm : Option S} (h1 : m__law_roll [.int x, .int y] [.int 5] = .ok (.int r, [.int x1, .int y1])) (h2 : cutD [.str "ann", .str "bob", .str "cy", .str "dee", .str "eve"] none (some (1 + r)) = xs)
    (h3 : forD (setD 3) b__law_any_forms_1 xs [some (.dc [.int x1, .int y1]), some (.d (.int 5)), some (.ol []), none, none] = .ok .nx [some (.dc [.int x2, .int y2]), some (.d (.int 5)), some (.ol fs), nm, none]) : m__law_any_forms [.int x, .int y] [.int 5] = .ok (.list fs, [.int x2, .int y2]) := by
  unfold m__law_any_forms b__law_any_forms
  simp [h1, h2, h3]
theorem any_forms_ok (x y : Int) : ∃ (n : Nat) (fs : List Frm) (x' y' : Int), 1 ≤ n ∧ n ≤ 5 ∧ fs.map (·.1) = five5.take n ∧ (∀ f ∈ fs, okF f) ∧ m__law_any_forms [.int x, .int y] [.int 5] = .ok (encF fs, [.int x', .int y']) := by
  obtain ⟨r, x1, y1, a0, a1, h1⟩ := roll_ok x y 5 (by decide) (by decide)
  obtain ⟨n, hn⟩ : ∃ n : Nat, 1 + r = n := ⟨(1 + r).toNat, by omega⟩
  obtain ⟨fs, x2, y2, nm, hf, ofs, e⟩ := forms_loop (some (.d (.int 5))) (five5.take n) [] x1 y1 none (by simp [five5]; omega)
  refine ⟨n, fs, x2, y2, by omega, by omega, hf, ofs, ?_⟩
  refine af_body (xs := (five5.take n).map .str) h1 ?_ e
  rw [hn]
  exact cut_to D.str five5 n (by show n ≤ 5; omega)
/-! ### the law's own greatest tuple -/
theorem combs_sub (l : List Str) : ∀ (k : Nat), ∀ c ∈ combs k l, ∀ u ∈ c, u ∈ l := by
  induction l with
  | nil => intro k c h; cases k with
    | zero => simp [combs] at h; simp [h]
    | succ k => simp [combs] at h
  | cons x xs ih =>
    intro k c h u hu
    cases k with
    | zero => simp [combs] at h; rw [h] at hu; simp at hu
    | succ k =>
      simp only [combs, List.mem_append, List.mem_map] at h
      rcases h with ⟨d, hd, rfl⟩ | h
      · rcases List.mem_cons.mp hu with rfl | hu
        · exact List.mem_cons_self
        · exact List.mem_cons_of_mem _ (ih k d hd u hu)
      · exact List.mem_cons_of_mem _ (ih (k + 1) c h u hu)
def sumW (fs : List Frm) : Int := (fs.map fun f => f.2.1).sum
theorem totW_le (names : List Str) : ∀ fs : List Frm, (∀ f ∈ fs, okF f) → totW fs names ≤ 9 * fs.length
  | [], _ => by simp [totW]
  | f :: fs, h => by
    have ih := totW_le names fs fun g m => h g (List.mem_cons_of_mem _ m)
    have := h f List.mem_cons_self
    unfold totW at ih ⊢
    rw [List.map_cons, List.sum_cons, List.length_cons]
    have h2 : (if f.1 ∈ names then f.2.1 else 0) ≤ 9 := by
      split
      · exact this.2.1
      · decide
    omega
theorem flt_tupS {l : List Str} (h : ∀ u ∈ l, PyData.strOk u = true) : Flt 1 (tupS l) := flt_tuple fun x m => by
  obtain ⟨u, mu, rfl⟩ := List.mem_map.mp m
  exact flt_str (h u mu)
theorem dEq_nil {xs : List D} {n : Nat} (hn : n ≤ 50) (h : ∀ x ∈ xs, Flt n x) : dEq (.list xs) (.list []) = .ok (.bool (decide (xs = []))) := by
  have f1 : Flt (n + 1) (.list xs) := flt_list h
  rw [dEq_ap, if_pos ⟨f1.ok (by omega), rfl⟩, eqv_list]
  cases xs with
  | nil => rfl
  | cons a b => simp
end Mi
set_option Elab.async false
set_option linter.all false
set_option maxRecDepth 100000
set_option maxHeartbeats 4000000
namespace Mi
open PySem L2
@[simp] theorem lenSetE_ap {f : MM D} {ρ : MSt} : lenSetE f ρ = Out.bind (f ρ) fun x => lift (lenSet x) := rfl
theorem toStrs_map {α : Type} (f : α → Str) : ∀ l : List α, toStrs (l.map fun a => .str (f a)) = some (l.map f)
  | [] => rfl
  | a :: l => by
    rw [List.map_cons, toStrs, toStrs_map f l]
    rfl
theorem lenSet_map {α : Type} (f : α → Str) (l : List α) (h : l.length < 1000) : lenSet (.list (l.map fun a => .str (f a))) = .ok (.int (cntU (l.map f))) := by
  unfold lenSet
  dsimp only
  rw [toStrs_map]
  dsimp only
  rw [if_pos (by simpa using h)]
/-! ### rows whose first things are unlike -/
theorem unlike_rows {α : Type} (nm : α → Str) (r : α → List D) (l : List α) (hl : l.length < 1000) : m_are_unlike [.list (l.map fun a => .tuple (.str (nm a) :: r a))] = .ok (.bool (decide (l.map nm).Nodup)) := by
  have hc := compL_mapT (os := [1]) (gt := setD 1) (el := c_are_unlike_1) (enc := fun a : α => .tuple (.str (nm a) :: r a)) (f := fun a => .str (nm a)) (ρ := [some (.d (.list (l.map fun a => .tuple (.str (nm a) :: r a)))), none, none]) (l := l) (by omega) (by simp) fun a _ => ⟨[some (.d (.list (l.map fun a => .tuple (.str (nm a) :: r a)))), some (.d (.tuple (.str (nm a) :: r a))), none], by simp, by simp, by simp [c_are_unlike_1]⟩
  have hn := cntU_nodup l.length (l.map nm) (by simp)
  simp only [m_are_unlike, b_are_unlike]
  simp [-compL_ap, hc, lenSet_map nm l hl, eqOk_int]
  by_cases z : (l.map nm).Nodup
  · simp [z, hn.mpr z]
  · have z2 : ¬ ((cntU (l.map nm) : Int) = (l.length : Int)) := fun q => z (hn.mp (by omega))
    simp [z]
    omega
/-! ### forms -/
structure GF (f : Frm) : Prop where
  w : isWordB f.1 = true
  l : 1 ≤ f.2.1
  h : f.2.1 ≤ 999
  o : ok3 f.2.2
theorem form_true {f : Frm} (g : GF f) : m_is_form [eF f] = .ok (.bool true) := by
  have t := tuple_row f.1 [.int f.2.1, encW3 f.2.2] 3 (len_word g.w)
  have w : m_is_wish [encW3 f.2.2] = .ok (.bool true) := wish_true _ _ _ g.o.1 g.o.2.1 g.o.2.2
  simp [m_is_form, b_is_form, eF, t, whole_int, w, g.w, g.l, g.h]
theorem need_forms_eq (fs : List Frm) (g : ∀ f ∈ fs, GF f) (h1 : 1 ≤ fs.length) (h2 : fs.length ≤ 8) : m_need_forms [encF fs] = if (fs.map (·.1)).Nodup then .ok .none else .exn ⟨"BadMoulds", none⟩ := by
  have hc := compL_mapT (os := [1]) (gt := setD 1) (el := c_need_forms_1) (enc := eF) (f := fun p => .bool true) (ρ := [some (.d (encF fs)), none, none]) (l := fs) (by omega) (by simp) fun p m => ⟨[some (.d (encF fs)), some (.d (eF p)), none], by simp, by simp, by simp [c_need_forms_1, form_true (g p m)]⟩
  have hu : m_are_unlike [.list (fs.map eF)] = .ok (.bool (decide (fs.map (·.1)).Nodup)) := unlike_rows (fun p : Frm => p.1) (fun p => [.int p.2.1, encW3 p.2.2]) fs (by omega)
  have e : encF fs = .list (fs.map eF) := rfl
  have k1 : (1 : Int) ≤ fs.length := by omega
  have k2 : (fs.length : Int) ≤ 8 := by omega
  simp only [m_need_forms, b_need_forms]
  rw [e] at hc ⊢
  simp [-compL_ap, hc, toBools_map, hu, k1, k2]
theorem no_forms {d : D} (hd : isLst d = false) (nl : isLoc d = false := by rfl) : m_need_forms [d] = .exn ⟨"BadMoulds", none⟩ := by
  simp [m_need_forms, b_need_forms, hd, isiK_of nl]
theorem one_bad {d : D} (hd : m_is_form [d] = .ok (.bool false)) : m_need_forms [.list [d]] = .exn ⟨"BadMoulds", none⟩ := by
  simp [m_need_forms, b_need_forms, c_need_forms_1, hd]
theorem nil_bad : m_need_forms [.list []] = .exn ⟨"BadMoulds", none⟩ := by
  simp [m_need_forms, b_need_forms]
theorem many_bad {l : List D} (hd : 8 < l.length) : m_need_forms [.list l] = .exn ⟨"BadMoulds", none⟩ := by
  have k : ¬ ((l.length : Int) ≤ 8) := by omega
  simp [m_need_forms, b_need_forms, k]
def nineN : List Str := ["fa", "fb", "fc", "fd", "fe", "ff", "fg", "fh", "fi"]
def nineD : List D := nineN.map fun u => .tuple [.str u, .int 1, .tuple []]
def casesA (p : Frm) : List D := [.none, .int 5, .list [], .tuple [eF p], .list [eF p, eF p], .list [.tuple [.str p.1, .int p.2.1]], .list [.tuple [.str "Ann", .int 1, .tuple []]], .list [.tuple [.str "ann", .int 0, .tuple []]]]
def casesB (p : Frm) : List D := [.list [.tuple [.str "ann", .int 1000, .tuple []]], .list [.tuple [.str "ann", .int 1, .none]], .list [.list [.str p.1, .int p.2.1, encW3 p.2.2]], .list [.none]]
theorem cases_bad {p : Frm} (g : GF p) : ∀ d ∈ casesA p ++ casesB p ++ [.list nineD], m_need_forms [d] = .exn ⟨"BadMoulds", none⟩ := by
  intro d m
  simp only [casesA, casesB, List.cons_append, List.nil_append, List.mem_cons, List.not_mem_nil, or_false] at m
  rcases m with rfl | rfl | rfl | rfl | rfl | rfl | rfl | rfl | rfl | rfl | rfl | rfl | rfl
  · exact no_forms rfl
  · exact no_forms rfl
  · exact nil_bad
  · exact no_forms rfl
  · have := need_forms_eq [p, p] (by simp [g]) (by simp) (by simp)
    rw [if_neg (by simp)] at this
    exact this
  · refine one_bad ?_
    have t := tuple_row p.1 [.int p.2.1] 3 (len_word g.w)
    simp [m_is_form, b_is_form, t]
  · exact one_bad rfl
  · exact one_bad rfl
  · exact one_bad rfl
  · exact one_bad rfl
  · refine one_bad ?_
    simp [m_is_form, b_is_form, m_is_tuple, b_is_tuple, show isTup (.list [.str p.1, .int p.2.1, encW3 p.2.2]) = false from rfl]
  · exact one_bad rfl
  · exact many_bad (by decide)
theorem room_ok {r : Int} (h : 1 ≤ r ∧ r ≤ 9999) : m_need_room [.int r] = .ok .none := by
  simp [m_need_room, b_need_room, whole_int, h.1, h.2]
end Mi
set_option Elab.async false
set_option linter.all false
set_option maxRecDepth 100000
set_option maxHeartbeats 4000000
namespace Mi
open PySem L2
def srt (l : List Str) : Prop := l.Pairwise fun a b => leD (.str a) (.str b) = true
structure GFs (fs : List Frm) : Prop where
  g : ∀ f ∈ fs, GF f
  l1 : 1 ≤ fs.length
  l2 : fs.length ≤ 8
  nd : (fs.map (·.1)).Nodup
  st : srt (fs.map (·.1))
theorem GFs.need {fs : List Frm} (g : GFs fs) : m_need_forms [encF fs] = .ok .none := by
  rw [need_forms_eq fs g.g g.l1 g.l2, if_pos g.nd]
theorem al_body {room s k : Int} {F A : D} {xs : List D} {W : D} (hr : 1 ≤ room ∧ room ≤ 9999) (h0 : m_need_forms [F] = .ok .none) (h1 : iterAll F = .ok xs) (h2 : compL [3] (setD 3) (MM.pure true) c_at_least_1 xs [some (.d (.int room)), some (.d F), none, none, none] = .ok W [some (.d (.int room)), some (.d F), none, none, none])
    (h3 : dSum [W] = .ok (.int s)) (h4 : m_most_apart [F] = .ok A) (h5 : dLen [A] = .ok (.int k)) : m_at_least [.int room, F] = .ok (.int (max k ((s + room - 1) / room))) := by
  have lg : room.natAbs.log2 < 9000 := log2_lt_of (k := 9000) (Nat.lt_of_lt_of_le (show room.natAbs < 2 ^ 20 by omega) (Nat.pow_le_pow_right (by decide) (by decide))) (by decide)
  have hp : 0 < room := by omega
  have hn := room_ok hr
  unfold m_at_least b_at_least
  simp [-compL_ap, hn, h0, h1, h2, h3, h4, h5, -dSum_list, lg, hp]
theorem at_least_eq {fs : List Frm} (g : GFs fs) {room : Int} (hr : 1 ≤ room ∧ room ≤ 9999) : m_at_least [.int room, encF fs] = .ok (.int (max ((apartN fs (fs.map (·.1)) fs.length).length : Int) ((sumW fs + room - 1) / room))) := by
  have hc := compL_mapT (os := [3]) (gt := setD 3) (el := c_at_least_1) (enc := eF) (f := fun f => .int f.2.1) (l := fs) (ρ := [some (.d (.int room)), some (.d (encF fs)), none, none, none]) (by have := g.l2; omega) (by simp) fun f m =>
    ⟨[some (.d (.int room)), some (.d (encF fs)), none, some (.d (eF f)), none], by simp, by simp, by simp [c_at_least_1, eF]⟩
  exact al_body hr g.need rfl hc (dSum_map (fun f : Frm => f.2.1) fs) (most_apart_eq fs (by have := g.l2; omega) g.st) (by simp [tupS])
theorem ceil_eq {t r : Int} (h : 0 < r) : -((-t) / r) = (t + r - 1) / r := by
  have e1 := Int.mul_ediv_add_emod (t + r - 1) r
  have e2 := Int.emod_nonneg (t + r - 1) (by omega : r ≠ 0)
  have e3 := Int.emod_lt_of_pos (t + r - 1) h
  generalize (t + r - 1) / r = q at *
  generalize (t + r - 1) % r = m at *
  have a : (-t) / r = -q := by
    refine Int.le_antisymm ?_ ?_
    · refine Int.lt_add_one_iff.mp (Int.ediv_lt_of_lt_mul h ?_)
      have : (-q + 1) * r = -(r * q) + r := by rw [Int.add_mul, Int.neg_mul, Int.one_mul, Int.mul_comm q r]
      omega
    · refine Int.le_ediv_of_mul_le h ?_
      have : -q * r = -(r * q) := by rw [Int.neg_mul, Int.mul_comm q r]
      omega
  omega
end Mi
set_option Elab.async false
set_option linter.all false
set_option maxRecDepth 100000
set_option maxHeartbeats 4000000
namespace Mi
open PySem L2
def stL (dc r2 r3 r4 r5 r6 r7 r8 r9 r10 r11 r12 r13 r14 r15 r16 r17 : Option S) : MSt := [none, dc, r2, r3, r4, r5, r6, r7, r8, r9, r10, r11, r12, r13, r14, r15, r16, r17, some (.sto true [])]
theorem bl1_body {dc r2 r4 r5 r6 : Option S} {F L G : D} {acc ps : List D} {b : Bool} (h1 : m_subsets 14 [L, .int 2] = .ok (.list ps))
    (h2 : compL [16] (setD 16) (tst (callE m__law_one_melt (consA (MM.pure (.int 9999)) (consA (var 3) (consA (var 16) (MM.pure [])))))) c_law_2 ps (stL dc r2 (some (.d F)) r4 r5 r6 (some (.ol acc)) (some (.d L)) none none none none none none none none none) = .ok G (stL dc r2 (some (.d F)) r4 r5 r6 (some (.ol acc)) (some (.d L)) none none none none none none none none none))
    (h3 : dEq G (.list []) = .ok (.bool b)) (h4 : acc.length < 16777216) : b_law_1 (stL dc r2 (some (.d F)) r4 r5 r6 (some (.ol acc)) (some (.d L)) none none none none none none none none none) = .ok .nx (stL dc r2 (some (.d F)) r4 r5 r6 (some (.ol (if b = true then acc ++ [L] else acc))) (some (.d L)) none none none none none none none none none) := by
  unfold b_law_1
  rw [tuples_same]
  unfold stL at *
  cases b
  · simp [-compL_ap, h1, h2, h3, h4, -dEq_ap]
  · simp [-compL_ap, h1, h2, h3, h4, -dEq_ap]
theorem bl1 {dc r2 r4 r5 r6 : Option S} {acc : List D} (fs : List Frm) (hl : fs.length ≤ 12) (ok : ∀ f ∈ fs, okF f) (l : List Str) (ll : l.length ≤ 12) (hw : ∀ u ∈ l, PyData.strOk u = true) (h4 : acc.length < 16777216) : b_law_1 (stL dc r2 (some (.d (encF fs))) r4 r5 r6 (some (.ol acc)) (some (.d (tupS l))) none none none none none none none none none) = .ok .nx (stL dc r2 (some (.d (encF fs))) r4 r5 r6 (some (.ol (if partB fs l = true then acc ++ [tupS l] else acc))) (some (.d (tupS l))) none none none none none none none none none) := by
  have hs : m_subsets 14 [tupS l, .int 2] = .ok (.list ((combs 2 l).map tupS)) := subsets_eq false 14 2 l (by decide) ll
  have cl := combs_len l 2
  have hp : 2 ^ l.length ≤ 2 ^ 12 := Nat.pow_le_pow_right (by decide) ll
  have hc := compL_filT (os := [16]) (gt := setD 16) (t := tst (callE m__law_one_melt (consA (MM.pure (.int 9999)) (consA (var 3) (consA (var 16) (MM.pure [])))))) (el := c_law_2) (enc := tupS) (f := tupS) (p := meetB fs) (l := combs 2 l)
    (ρ := stL dc r2 (some (.d (encF fs))) r4 r5 r6 (some (.ol acc)) (some (.d (tupS l))) none none none none none none none none none) (by omega) (by simp [stL]) fun p m => by
      have e := one_melt_eq 9999 fs p hl fun f m => (ok f m).2.2
      have t := totW_le p fs ok
      have t2 : decide (totW fs p ≤ 9999) = true := decide_eq_true (by omega)
      rw [t2, Bool.true_and] at e
      refine ⟨stL dc r2 (some (.d (encF fs))) r4 r5 r6 (some (.ol acc)) (some (.d (tupS l))) none none none none none none none (some (.d (tupS p))) none, by simp [stL], by simp [stL], ?_, fun _ => by simp [c_law_2, stL]⟩
      simp [stL, e]
  have hd := dEq_nil (n := 1) (by decide) (xs := ((combs 2 l).filter (meetB fs)).map tupS) fun x m => by
    obtain ⟨p, mp, rfl⟩ := List.mem_map.mp m
    exact flt_tupS fun u hu => hw u (combs_sub l 2 p (List.mem_filter.mp mp).1 u hu)
  have hb : decide (((combs 2 l).filter (meetB fs)).map tupS = []) = partB fs l := by
    unfold partB
    rw [Bool.eq_iff_iff]
    simp [List.filter_eq_nil_iff, List.any_eq_false]
  rw [hb] at hd
  exact bl1_body hs hc hd h4
theorem good_loop {dc r2 r4 r5 r6 : Option S} (fs : List Frm) (hl : fs.length ≤ 12) (ok : ∀ f ∈ fs, okF f) : ∀ (cs : List (List Str)) (acc : List (List Str)) (r8 : Option S), (∀ l ∈ cs, l.length ≤ 12 ∧ ∀ u ∈ l, PyData.strOk u = true) → acc.length + cs.length < 10000 → ∃ r8',
    forD (setD 8) b_law_1 (cs.map tupS) (stL dc r2 (some (.d (encF fs))) r4 r5 r6 (some (.ol (acc.map tupS))) r8 none none none none none none none none none) = .ok .nx (stL dc r2 (some (.d (encF fs))) r4 r5 r6 (some (.ol ((acc ++ cs.filter (partB fs)).map tupS))) r8' none none none none none none none none none)
  | [], acc, r8, _, _ => ⟨r8, by simp⟩
  | l :: cs, acc, r8, h, hn => by
    simp at hn
    have hq := h l List.mem_cons_self
    have e1 := bl1 (dc := dc) (r2 := r2) (r4 := r4) (r5 := r5) (r6 := r6) (acc := acc.map tupS) fs hl ok l hq.1 hq.2 (by simp; omega)
    have e2 : (if partB fs l = true then acc.map tupS ++ [tupS l] else acc.map tupS) = ((acc ++ if partB fs l = true then [l] else []).map tupS) := by split <;> simp
    rw [e2] at e1
    obtain ⟨r8', ih⟩ := good_loop (dc := dc) (r2 := r2) (r4 := r4) (r5 := r5) (r6 := r6) fs hl ok cs (acc ++ if partB fs l = true then [l] else []) (some (.d (tupS l))) (fun l m => h l (List.mem_cons_of_mem _ m)) (by split <;> simp <;> omega)
    refine ⟨r8', ?_⟩
    rw [List.map_cons, forD_step (by simp [stL]) e1, ih]
    rw [List.filter_cons, List.append_assoc]
    split <;> simp
theorem bl2_body {dc r2 : Option S} {F N : D} {due r7 r8 r8' : Option S} {L : D} {cs good : List D} (h1 : m_subsets 14 [N, L] = .ok (.list cs))
    (h2 : forD (setD 8) b_law_1 cs (stL dc r2 (some (.d F)) (some (.d N)) due (some (.d L)) (some (.ol [])) r8 none none none none none none none none none) = .ok .nx (stL dc r2 (some (.d F)) (some (.d N)) due (some (.d L)) (some (.ol good)) r8' none none none none none none none none none)) {o : Out Fl}
    (h3 : asgS (ifE (opT dNe (var 7) (MM.bind (MM.pure []) fun xs => lift (mkL xs))) (op2 dIx (var 7) (MM.pure (.int 0))) (var 5)) (setD 5) (stL dc r2 (some (.d F)) (some (.d N)) due (some (.d L)) (some (.d (.list good))) r8' none none none none none none none none none) = o) :
    b_law_2 (stL dc r2 (some (.d F)) (some (.d N)) due (some (.d L)) r7 r8 none none none none none none none none none) = o := by
  unfold b_law_2
  rw [tuples_same]
  unfold stL at *
  simp [h1, h2, ← h3]
def headOr (d : List Str) : List (List Str) → List Str
  | [] => d
  | l :: _ => l
theorem due_step {dc r2 r3 r4 r6 r8 : Option S} {due : List Str} {good : List (List Str)} (hw : ∀ l ∈ good, ∀ u ∈ l, PyData.strOk u = true) : asgS (ifE (opT dNe (var 7) (MM.bind (MM.pure []) fun xs => lift (mkL xs))) (op2 dIx (var 7) (MM.pure (.int 0))) (var 5)) (setD 5) (stL dc r2 r3 r4 (some (.d (tupS due))) r6 (some (.d (.list (good.map tupS)))) r8 none none none none none none none none none) =
    .ok .nx (stL dc r2 r3 r4 (some (.d (tupS (headOr due good)))) r6 (some (.d (.list (good.map tupS)))) r8 none none none none none none none none none) := by
  have f1 : Flt 2 (.list (good.map tupS)) := flt_list fun x m => by
    obtain ⟨p, mp, rfl⟩ := List.mem_map.mp m
    exact flt_tupS (hw p mp)
  have e0 := f1.ok
  have en : eqOk (.list []) = true := rfl
  unfold stL
  cases good with
  | nil => simp [en, headOr]
  | cons l ls =>
    rw [List.map_cons] at e0 ⊢
    simp [e0, en, headOr]
theorem apartN_step (fs : List Frm) (names : List Str) (k : Nat) : headOr (apartN fs names k) ((combs (k + 1) names).filter (partB fs)) = apartN fs names (k + 1) := by
  rw [apartN, ← List.head?_filter]
  cases (combs (k + 1) names).filter (partB fs) <;> rfl
theorem due_loop {dc r2 : Option S} (fs : List Frm) (hl : fs.length ≤ 12) (ok : ∀ f ∈ fs, okF f) (names : List Str) (hn : names.length ≤ 12) (hw : ∀ u ∈ names, PyData.strOk u = true) : ∀ (n k : Nat) (r6 r7 r8 : Option S), k + n ≤ 12 → ∃ r6' r7' r8',
    forD (setD 6) b_law_2 (upTo ((k : Int) + 1) n) (stL dc r2 (some (.d (encF fs))) (some (.d (tupS names))) (some (.d (tupS (apartN fs names k)))) r6 r7 r8 none none none none none none none none none) =
      .ok .nx (stL dc r2 (some (.d (encF fs))) (some (.d (tupS names))) (some (.d (tupS (apartN fs names (k + n))))) r6' r7' r8' none none none none none none none none none)
  | 0, k, r6, r7, r8, _ => ⟨r6, r7, r8, rfl⟩
  | n + 1, k, r6, r7, r8, h => by
    have hs : m_subsets 14 [tupS names, .int ((k + 1 : Nat) : Int)] = .ok (.list ((combs (k + 1) names).map tupS)) := subsets_eq false 14 (k + 1) names (by omega) hn
    have cl := combs_len names (k + 1)
    have hp : 2 ^ names.length ≤ 2 ^ 12 := Nat.pow_le_pow_right (by decide) hn
    obtain ⟨r8', e1⟩ := good_loop (dc := dc) (r2 := r2) (r4 := some (.d (tupS names))) (r5 := some (.d (tupS (apartN fs names k)))) (r6 := some (.d (.int ((k + 1 : Nat) : Int)))) fs hl ok (combs (k + 1) names) [] r8 (fun l m => ⟨comb_short m hn, fun u hu => hw u (combs_sub names _ l m u hu)⟩) (by simp; omega)
    have e2 := due_step (dc := dc) (r2 := r2) (r3 := some (.d (encF fs))) (r4 := some (.d (tupS names))) (r6 := some (.d (.int ((k + 1 : Nat) : Int)))) (r8 := r8') (due := apartN fs names k) (good := (combs (k + 1) names).filter (partB fs)) (fun l m u hu => hw u (combs_sub names _ l (List.mem_filter.mp m).1 u hu))
    rw [apartN_step] at e2
    have e3 := bl2_body (r7 := r7) hs e1 e2
    obtain ⟨r6', r7', r8'', ih⟩ := due_loop (dc := dc) (r2 := r2) fs hl ok names hn hw n (k + 1) (some (.d (.int ((k + 1 : Nat) : Int)))) (some (.d (.list (((combs (k + 1) names).filter (partB fs)).map tupS)))) r8' (by omega)
    refine ⟨r6', r7', r8'', ?_⟩
    have u1 : upTo ((k : Int) + 1) (n + 1) = .int ((k + 1 : Nat) : Int) :: upTo (((k + 1 : Nat) : Int) + 1) n := by
      unfold upTo
      rw [List.range_succ_eq_map, List.map_cons, List.map_map]
      refine List.cons_eq_cons.mpr ⟨?_, List.map_congr_left fun i _ => ?_⟩
      · show D.int _ = D.int _
        congr 1
      · show D.int _ = D.int _
        have : (k : Int) + 1 + ((i + 1 : Nat) : Int) = ((k + 1 : Nat) : Int) + 1 + (i : Int) := by omega
        first | exact congrArg _ this | (simp; omega)
    rw [u1, forD_step (by simp [stL]) e3, ih]
    rw [show k + 1 + n = k + (n + 1) by omega]
end Mi
set_option Elab.async false
set_option linter.all false
set_option maxRecDepth 100000
set_option maxHeartbeats 4000000
namespace Mi
open PySem L2
theorem apart_x {d : D} (h : m_need_forms [d] = .exn ⟨"BadMoulds", none⟩) : m_apart [d] = .exn ⟨"BadMoulds", none⟩ := by
  simp [m_apart, b_apart, h]
theorem least_x {d : D} (h : m_need_forms [d] = .exn ⟨"BadMoulds", none⟩) : m_at_least [.int 5, d] = .exn ⟨"BadMoulds", none⟩ := by
  simp [m_at_least, b_at_least, h, room_ok]
theorem fewest_x {d : D} (h : m_need_forms [d] = .exn ⟨"BadMoulds", none⟩) (nl : noLoc d = true): m_fewest [.int 5, d] = .exn ⟨"BadMoulds", none⟩ := by
  have e : startS 3 [.int 5, d] [] = [some (.d (.int 5)), some (.d d), none, some (.sto true [])] := rfl
  have hl : noLocs [.int 5, d] = true := by simp [noLocs, nl, noLoc]
  unfold m_fewest b_fewest runP
  rw [if_pos ⟨rfl, hl⟩, e]
  simp [h, room_ok]
  rfl
theorem share_x {d : D} (h : m_need_forms [d] = .exn ⟨"BadMoulds", none⟩) : m_may_share [.int 5, d, .none] = .exn ⟨"BadMoulds", none⟩ := by
  simp [m_may_share, b_may_share, h, room_ok]
end Mi
set_option Elab.async false
set_option linter.all false
set_option maxRecDepth 100000
set_option maxHeartbeats 4000000
namespace Mi
open PySem L2
theorem apart_eq {fs : List Frm} (g : GFs fs) : m_apart [encF fs] = .ok (tupS (apartN fs (fs.map (·.1)) fs.length)) := by
  have := g.need
  have h2 := most_apart_eq fs (by have := g.l2; omega) g.st
  simp [m_apart, b_apart, this, h2]
/-! ### five and eight of them -/
def fr (s : Str) : Frm := (s, 999, w0)
def fiveF : List Frm := [fr "fa", fr "fb", fr "fc", fr "fd", fr "fe"]
def eightF : List Frm := [fr "fa", fr "fb", fr "fc", fr "fd", fr "fe", fr "ff", fr "fg", fr "fh"]
def fiveN : List D := [.str "fa", .str "fb", .str "fc", .str "fd", .str "fe"]
theorem g_fr {s : Str} (h : isWordB s = true) : GF (fr s) := ⟨h, by show (1 : Int) ≤ 999; decide, by show (999 : Int) ≤ 999; decide, trivial, trivial, trivial⟩
theorem eightG : GFs eightF := ⟨fun f m => by
  simp only [eightF, List.mem_cons, List.not_mem_nil, or_false] at m
  rcases m with rfl | rfl | rfl | rfl | rfl | rfl | rfl | rfl <;> exact g_fr (by decide +kernel), by decide, by decide, by decide +kernel, by unfold srt; decide +kernel⟩
theorem fiveG : GFs fiveF := ⟨fun f m => by
  simp only [fiveF, List.mem_cons, List.not_mem_nil, or_false] at m
  rcases m with rfl | rfl | rfl | rfl | rfl <;> exact g_fr (by decide +kernel), by decide, by decide, by decide +kernel, by unfold srt; decide +kernel⟩
theorem eight_apart : apartN eightF (eightF.map (·.1)) eightF.length = [("fa" : Str)] := by decide +kernel
theorem apart_8 : m_apart [encF eightF] = .ok (.tuple [.str "fa"]) := by
  rw [apart_eq eightG, eight_apart]; rfl
theorem least_8 : m_at_least [.int 999, encF eightF] = .ok (.int 8) := by
  rw [at_least_eq eightG (by decide), eight_apart]; rfl
def resD : SRes → Option D
  | .ok d _ => some d
  | _ => none
theorem five_best : resD (m_Grouper_best 14 [.obj "Grouper" [("room", .int 9999), ("forms", encF fiveF), ("known", .loc 1)], .tdc []] [.loc 0, .tuple fiveN]) = some (.list [.tuple fiveN]) := by
  kernel_rfl
theorem few_body {F N Tn R : D} {xs : List D} {μ : Sto} (h0 : m_need_forms [F] = .ok .none) (h1 : iterAll F = .ok xs) (h2 : compL [2] (setD 2) (MM.pure true) c_fewest_1 xs [some (.d (.int 9999)), some (.d F), none, some (.sto true [.obj "Grouper" [("room", .int 9999), ("forms", F), ("known", .loc 1)], .tdc []])] = .ok N [some (.d (.int 9999)), some (.d F), none, some (.sto true [.obj "Grouper" [("room", .int 9999), ("forms", F), ("known", .loc 1)], .tdc []])])
    (h3 : dSorted [N] = .ok N) (h4 : dTuple [N] = .ok Tn) (h5 : m_Grouper_best 14 [.obj "Grouper" [("room", .int 9999), ("forms", F), ("known", .loc 1)], .tdc []] [.loc 0, Tn] = .ok R μ) (h6 : noLoc F = true) (h7 : noLoc R = true) : m_fewest [.int 9999, F] = .ok R := by
  have e : startS 3 [.int 9999, F] [] = [some (.d (.int 9999)), some (.d F), none, some (.sto true [])] := rfl
  have hl : noLocs [.int 9999, F] = true := by simp [noLocs, h6, noLoc]
  have hr : m_need_room [.int 9999] = .ok .none := room_ok (by decide)
  have mk : makeE "Grouper" m_Grouper___init__ (consA (var 0) (consA (var 1) (MM.pure []))) [some (.d (.int 9999)), some (.d F), none, some (.sto true [])] = .ok (.loc 0) [some (.d (.int 9999)), some (.d F), none, some (.sto true [.obj "Grouper" [("room", .int 9999), ("forms", F), ("known", .loc 1)], .tdc []])] := by
    rfl
  have ob : isOb [some (.d (.int 9999)), some (.d F), none, some (.sto true [.obj "Grouper" [("room", .int 9999), ("forms", F), ("known", .loc 1)], .tdc []])] "Grouper" "best" (.loc 0) = true := by rfl
  have cl : callSK (m_Grouper_best 14) [.loc 0, Tn] [some (.d (.int 9999)), some (.d F), none, some (.sto true [.obj "Grouper" [("room", .int 9999), ("forms", F), ("known", .loc 1)], .tdc []])] = .ok R [some (.d (.int 9999)), some (.d F), none, some (.sto true μ)] := by
    unfold callSK
    show (match m_Grouper_best 14 [.obj "Grouper" [("room", .int 9999), ("forms", F), ("known", .loc 1)], .tdc []] [.loc 0, Tn] with | _ => _) = _
    rw [h5]; rfl
  unfold m_fewest b_fewest runP
  rw [if_pos ⟨rfl, hl⟩, e]
  simp [-compL_ap, hr, h0, methE, mk, ob, h1, h2, h3, h4, cl, -dSorted_list]
  show (if noLoc R = true then Res.ok R else .stuck) = _
  rw [if_pos h7]
theorem five_few : m_fewest [.int 9999, encF fiveF] = .ok (.list [.tuple fiveN]) := by
  have hb := five_best
  cases z : m_Grouper_best 14 [.obj "Grouper" [("room", .int 9999), ("forms", encF fiveF), ("known", .loc 1)], .tdc []] [.loc 0, .tuple fiveN] with
  | ok d μ =>
    rw [z] at hb
    have hd : d = .list [.tuple fiveN] := by simpa [resD] using hb
    subst hd
    have hc := compL_mapT (os := [2]) (gt := setD 2) (el := c_fewest_1) (enc := eF) (f := fun f => .str f.1) (l := fiveF) (ρ := [some (.d (.int 9999)), some (.d (encF fiveF)), none, some (.sto true [.obj "Grouper" [("room", .int 9999), ("forms", encF fiveF), ("known", .loc 1)], .tdc []])]) (by decide) (by simp) fun f m =>
      ⟨[some (.d (.int 9999)), some (.d (encF fiveF)), some (.d (eF f)), some (.sto true [.obj "Grouper" [("room", .int 9999), ("forms", encF fiveF), ("known", .loc 1)], .tdc []])], by simp, by simp, rfl⟩
    exact few_body fiveG.need rfl hc (sorted_names (l := fiveF.map fun f : Frm => f.1) fiveG.st) rfl z rfl rfl
  | exn y μ => rw [z] at hb; cases hb
  | stuck => rw [z] at hb; cases hb
end Mi
set_option Elab.async false
set_option linter.all false
set_option maxRecDepth 100000
set_option maxHeartbeats 4000000
namespace Mi
open PySem L2
def refD (c : Str) : D := .tuple [.str "refused", .str c]
theorem told_ref {c : Str} (h : c ∈ nsX) {ρ : MSt} : toldK nsX (.exn ⟨c, none⟩ ρ) = .ok (refD c) ρ := by rw [toldK_exn, if_pos h]; rfl
theorem ns_mou : ("BadMoulds" : Str) ∈ nsX := by decide +kernel
theorem ok_4m : eqOk (.list [refD "BadMoulds", refD "BadMoulds", refD "BadMoulds", refD "BadMoulds"]) = true := by decide +kernel
theorem b3_ok {dc r2 r3 r4 r5 r6 r7 r8 r9 r10 r11 r13 r14 r15 r16 r17 : Option S} {d : D} (hb : m_need_forms [d] = .exn ⟨"BadMoulds", none⟩) (nl : noLoc d = true) :
    b_law_3 (stL dc r2 r3 r4 r5 r6 r7 r8 r9 r10 r11 (some (.d d)) r13 r14 r15 r16 r17) = .ok .nx (stL dc r2 r3 r4 r5 r6 r7 r8 r9 r10 r11 (some (.d d)) (some (.d (.list [refD "BadMoulds", refD "BadMoulds", refD "BadMoulds"]))) r14 r15 r16 r17) := by
  have n1 := apart_x hb
  have n2 := least_x hb
  have n3 := fewest_x hb nl
  have n4 := share_x hb
  have ne := ne_self ok_4m
  unfold refD at ne
  simp only [b_law_3, stL]
  simp [-dNe_ap, n1, n2, n3, n4, told_ref ns_mou, refD, ne, List.replicate, List.flatten]
theorem cases_noLoc (p : Frm) : ∀ d ∈ casesA p ++ casesB p ++ [.list nineD], noLoc d = true := by
  have hw : noLoc (encW3 p.2.2) = true := by
    obtain ⟨a, c, s⟩ := p.2.2
    rcases a with _ | ⟨_, _⟩ <;> rcases c with _ | ⟨_, _⟩ <;> rcases s with _ | ⟨_, _⟩ <;> rfl
  intro d m
  simp only [casesA, casesB, List.cons_append, List.nil_append, List.mem_cons, List.not_mem_nil, or_false] at m
  rcases m with rfl | rfl | rfl | rfl | rfl | rfl | rfl | rfl | rfl | rfl | rfl | rfl | rfl <;> simp [noLoc, noLocs, eF, hw]
  rfl
theorem bads_loop {dc r2 r3 r4 r5 r6 r7 r8 r9 r10 r11 r14 r15 r16 r17 : Option S} : ∀ (ds : List D) (r12 r13 : Option S), (∀ d ∈ ds, m_need_forms [d] = .exn ⟨"BadMoulds", none⟩ ∧ noLoc d = true) → ∃ r12' r13',
    forD (setD 12) b_law_3 ds (stL dc r2 r3 r4 r5 r6 r7 r8 r9 r10 r11 r12 r13 r14 r15 r16 r17) = .ok .nx (stL dc r2 r3 r4 r5 r6 r7 r8 r9 r10 r11 r12' r13' r14 r15 r16 r17)
  | [], r12, r13, _ => ⟨r12, r13, rfl⟩
  | d :: ds, r12, r13, h => by
    have hd := h d List.mem_cons_self
    obtain ⟨a, b, ih⟩ := bads_loop (dc := dc) (r2 := r2) (r3 := r3) (r4 := r4) (r5 := r5) (r6 := r6) (r7 := r7) (r8 := r8) (r9 := r9) (r10 := r10) (r11 := r11) (r14 := r14) (r15 := r15) (r16 := r16) (r17 := r17) ds (some (.d d)) (some (.d (.list [refD "BadMoulds", refD "BadMoulds", refD "BadMoulds"]))) (fun d m => h d (List.mem_cons_of_mem _ m))
    have e1 := b3_ok (dc := dc) (r2 := r2) (r3 := r3) (r4 := r4) (r5 := r5) (r6 := r6) (r7 := r7) (r8 := r8) (r9 := r9) (r10 := r10) (r11 := r11) (r13 := r13) (r14 := r14) (r15 := r15) (r16 := r16) (r17 := r17) hd.1 hd.2
    exact ⟨a, b, by rw [forD_step (by simp [stL]) e1, ih]⟩
theorem s2_ok {x y room : Int} {fs : List Frm} (hl : fs.length ≤ 12) (hs : srt (fs.map (·.1))) : s_law_2 (stL (some (.dc [.int x, .int y])) (some (.d (.int room))) (some (.d (encF fs))) none none none none none none none none none none none none none none) =
    .ok .nx (stL (some (.dc [.int x, .int y])) (some (.d (.int room))) (some (.d (encF fs))) (some (.d (tupS (fs.map (·.1))))) (some (.d (tupS []))) none none none none none none none none none none none none) := by
  have hc := compL_mapT (os := [15]) (gt := setD 15) (el := c_law_1) (enc := eF) (f := fun f => .str f.1) (l := fs) (ρ := stL (some (.dc [.int x, .int y])) (some (.d (.int room))) (some (.d (encF fs))) none none none none none none none none none none none none none none) (by omega) (by simp [stL]) fun f m =>
    ⟨stL (some (.dc [.int x, .int y])) (some (.d (.int room))) (some (.d (encF fs))) none none none none none none none none none none none (some (.d (eF f))) none none, by simp [stL], by simp [stL], by simp [c_law_1, eF, stL]⟩
  have e1 : fs.map (fun f => D.str f.1) = (fs.map (·.1)).map .str := by rw [List.map_map]; rfl
  rw [e1] at hc
  have h2 := sorted_names hs
  have ef : encF fs = .list (fs.map eF) := rfl
  have e0 : tupS [] = .tuple [] := rfl
  have e9 : tupS (fs.map (·.1)) = .tuple ((fs.map (·.1)).map .str) := rfl
  rw [e0, e9]
  generalize (fs.map (·.1)).map D.str = N at *
  generalize fs.map eF = xs at *
  rw [ef] at *
  unfold stL at *
  unfold s_law_2
  simp [-compL_ap, hc, h2, -dSorted_list]
theorem s3_body {dc r2 r3 r5 r5' r6' r7' r8' : Option S} {N : D} {LL : Int} {ds : List D} (h1 : dLen [N] = .ok (.int LL)) (h2 : range2 [.int 1, .int (LL + 1)] = .ok ds)
    (h3 : forD (setD 6) b_law_2 ds (stL dc r2 r3 (some (.d N)) r5 none none none none none none none none none none none none) = .ok .nx (stL dc r2 r3 (some (.d N)) r5' r6' r7' r8' none none none none none none none none none)) :
    s_law_3 (stL dc r2 r3 (some (.d N)) r5 none none none none none none none none none none none none) = .ok .nx (stL dc r2 r3 (some (.d N)) r5' r6' r7' r8' none none none none none none none none none) := by
  unfold s_law_3
  unfold stL at *
  simp [h1, h2, h3, -range2_ap]
theorem s4_ok {x y room : Int} {fs : List Frm} {r4 r5 r6 r7 r8 : Option S} (hl : fs.length ≤ 12) : s_law_4 (stL (some (.dc [.int x, .int y])) (some (.d (.int room))) (some (.d (encF fs))) r4 r5 r6 r7 r8 none none none none none none none none none) =
    .ok .nx (stL (some (.dc [.int x, .int y])) (some (.d (.int room))) (some (.d (encF fs))) r4 r5 r6 r7 r8 (some (.d (.int (sumW fs)))) none none none none none none none none) := by
  have hc := compL_mapT (os := [15]) (gt := setD 15) (el := c_law_3) (enc := eF) (f := fun f => .int f.2.1) (l := fs) (ρ := stL (some (.dc [.int x, .int y])) (some (.d (.int room))) (some (.d (encF fs))) r4 r5 r6 r7 r8 none none none none none none none none none) (by omega) (by simp [stL]) fun f m =>
    ⟨stL (some (.dc [.int x, .int y])) (some (.d (.int room))) (some (.d (encF fs))) r4 r5 r6 r7 r8 none none none none none none (some (.d (eF f))) none none, by simp [stL], by simp [stL], by simp [c_law_3, eF, stL]⟩
  have h2 := dSum_map (fun f : Frm => f.2.1) fs
  have ef : encF fs = .list (fs.map eF) := rfl
  have e9 : (fs.map fun f : Frm => f.2.1).sum = sumW fs := rfl
  rw [e9] at h2
  generalize (fs.map fun f => D.int f.2.1) = N at *
  generalize fs.map eF = xs at *
  rw [ef] at *
  unfold stL at *
  unfold s_law_4
  simp [-compL_ap, hc, h2, -dSum_list]
theorem s5_ok {dc r4 r6 r7 r8 : Option S} {F : D} {room t : Int} {due : List Str} (hw : ∀ u ∈ due, PyData.strOk u = true) (hr : 1 ≤ room ∧ room ≤ 9999) (h1 : m_apart [F] = .ok (tupS due)) (h2 : m_at_least [.int room, F] = .ok (.int (max (due.length : Int) ((t + room - 1) / room)))) :
    s_law_5 (stL dc (some (.d (.int room))) (some (.d F)) r4 (some (.d (tupS due))) r6 r7 r8 (some (.d (.int t))) none none none none none none none none) = .ok .nx (stL dc (some (.d (.int room))) (some (.d F)) r4 (some (.d (tupS due))) r6 r7 r8 (some (.d (.int t))) none none none none none none none none) := by
  have lg : room.natAbs.log2 < 9000 := log2_lt_of (k := 9000) (Nat.lt_of_lt_of_le (show room.natAbs < 2 ^ 20 by omega) (Nat.pow_le_pow_right (by decide) (by decide))) (by decide)
  have hp : 0 < room := by omega
  have ne := ne_self (flt_tupS hw).ok
  have ce := ceil_eq (t := t) hp
  have dl : dLen [tupS due] = .ok (.int (due.length : Int)) := by simp [tupS]
  rw [← ce] at h2
  have ni := ne_self (eqOk_int (max (due.length : Int) (-(-t / room))))
  unfold stL s_law_5
  simp [h1, h2, ne, ni, -dNe_ap, lg, hp, dl]
end Mi
set_option Elab.async false
set_option linter.all false
set_option maxRecDepth 100000
set_option maxHeartbeats 1000000
namespace Mi
open PySem L2
theorem s6_ok {dc r2 r4 r5 r6 r7 r8 r9 : Option S} {f : Frm} {fs : List Frm} : s_law_6 (stL dc r2 (some (.d (encF (f :: fs)))) r4 r5 r6 r7 r8 r9 none none none none none none none none) = .ok .nx (stL dc r2 (some (.d (encF (f :: fs)))) r4 r5 r6 r7 r8 r9 (some (.d (eF f))) none none none none none none none) := by
  unfold stL s_law_6 encF
  simp
theorem s7_ok {dc r2 r3 r4 r5 r6 r7 r8 r9 : Option S} {f : Frm} : s_law_7 (stL dc r2 r3 r4 r5 r6 r7 r8 r9 (some (.d (eF f))) none none none none none none none) = .ok .nx (stL dc r2 r3 r4 r5 r6 r7 r8 r9 (some (.d (eF f))) (some (.d (.list (casesA f)))) none none none none none none) := by
  have hc : sliceD (eF f) none (some 2) = .ok (.tuple [.str f.1, .int f.2.1]) := rfl
  unfold stL s_law_7 casesA
  simp [hc]
theorem s8_ok {dc r2 r3 r4 r5 r6 r7 r8 r9 : Option S} {f : Frm} : s_law_8 (stL dc r2 r3 r4 r5 r6 r7 r8 r9 (some (.d (eF f))) (some (.d (.list (casesA f)))) none none none none none none) = .ok .nx (stL dc r2 r3 r4 r5 r6 r7 r8 r9 (some (.d (eF f))) (some (.d (.list (casesA f ++ casesB f)))) none none none none none none) := by
  have hc : dList [eF f] = .ok (.list [.str f.1, .int f.2.1, encW3 f.2.2]) := rfl
  unfold stL s_law_8 casesA casesB
  simp [hc]
theorem nine_eq : (("abcdefghi" : Str).cps.toList.map fun c : Nat => D.tuple [.str (("f" : Str) ++ (⟨#[c]⟩ : Str)), .int 1, .tuple []]) = nineD := rfl
theorem eight_eq : (("abcdefgh" : Str).cps.toList.map fun c : Nat => D.tuple [.str (("f" : Str) ++ (⟨#[c]⟩ : Str)), .int 999, .tuple []]) = eightF.map eF := rfl
theorem nine_ok {dc r2 r3 r4 r5 r6 r7 r8 r9 r10 r11 r12 r13 r14 r15 r16 : Option S} : compL [17] (setD 17) (MM.pure true) c_law_4 (charsD "abcdefghi") (stL dc r2 r3 r4 r5 r6 r7 r8 r9 r10 r11 r12 r13 r14 r15 r16 none) = .ok (.list nineD) (stL dc r2 r3 r4 r5 r6 r7 r8 r9 r10 r11 r12 r13 r14 r15 r16 none) := by
  rw [charsD_eq, ← nine_eq]
  refine compL_mapT (enc := chD) (by decide) (by simp [stL]) fun c _ => ⟨stL dc r2 r3 r4 r5 r6 r7 r8 r9 r10 r11 r12 r13 r14 r15 r16 (some (.d (chD c))), by simp [stL], by simp [stL], ?_⟩
  have l1 : ("f" : Str).length + (⟨#[c]⟩ : Str).length ≤ 16777216 := by
    show 1 + 1 ≤ 16777216
    decide
  simp [c_law_4, chD, l1, stL]
theorem eight_ok {dc r2 r3 r4 r5 r6 r7 r8 r9 r10 r11 r12 r13 r14 r15 r16 : Option S} : compL [17] (setD 17) (MM.pure true) c_law_5 (charsD "abcdefgh") (stL dc r2 r3 r4 r5 r6 r7 r8 r9 r10 r11 r12 r13 r14 r15 r16 none) = .ok (encF eightF) (stL dc r2 r3 r4 r5 r6 r7 r8 r9 r10 r11 r12 r13 r14 r15 r16 none) := by
  unfold encF
  rw [charsD_eq, ← eight_eq]
  refine compL_mapT (enc := chD) (by decide) (by simp [stL]) fun c _ => ⟨stL dc r2 r3 r4 r5 r6 r7 r8 r9 r10 r11 r12 r13 r14 r15 r16 (some (.d (chD c))), by simp [stL], by simp [stL], ?_⟩
  have l1 : ("f" : Str).length + (⟨#[c]⟩ : Str).length ≤ 16777216 := by
    show 1 + 1 ≤ 16777216
    decide
  simp [c_law_5, chD, l1, stL]
theorem s9_body {dc r2 r3 r4 r5 r6 r7 r8 r9 r10 : Option S} {cs : List D} {o : Out Fl} (hl : cs.length + 1 ≤ 16777216) (h : forD (setD 12) b_law_3 (cs ++ [.list nineD]) (stL dc r2 r3 r4 r5 r6 r7 r8 r9 r10 (some (.d (.list cs))) none none none none none none) = o) : s_law_9 (stL dc r2 r3 r4 r5 r6 r7 r8 r9 r10 (some (.d (.list cs))) none none none none none none) = o := by
  have n := nine_ok (dc := dc) (r2 := r2) (r3 := r3) (r4 := r4) (r5 := r5) (r6 := r6) (r7 := r7) (r8 := r8) (r9 := r9) (r10 := r10) (r11 := some (.d (.list cs))) (r12 := none) (r13 := none) (r14 := none) (r15 := none) (r16 := none)
  subst h
  unfold s_law_9
  unfold stL at *
  simp [-compL_ap, -forD_cons, n, hl]
theorem s10_ok {dc r2 r3 r4 r5 r6 r7 r8 r9 r10 r11 r12 r13 : Option S} : s_law_10 (stL dc r2 r3 r4 r5 r6 r7 r8 r9 r10 r11 r12 r13 none none none none) = .ok .nx (stL dc r2 r3 r4 r5 r6 r7 r8 r9 r10 r11 r12 r13 (some (.d (encF eightF))) none none none) := by
  have n := eight_ok (dc := dc) (r2 := r2) (r3 := r3) (r4 := r4) (r5 := r5) (r6 := r6) (r7 := r7) (r8 := r8) (r9 := r9) (r10 := r10) (r11 := r11) (r12 := r12) (r13 := r13) (r14 := none) (r15 := none) (r16 := none)
  unfold s_law_10
  unfold stL at *
  simp [-compL_ap, n]
theorem cut_5 : sliceD (encF eightF) none (some 5) = .ok (encF fiveF) := by
  show Res.ok (D.list (cutD (eightF.map eF) none (some 5))) = _
  have := cut_to eF eightF 5 (by decide)
  rw [show ((5 : Nat) : Int) = 5 from rfl] at this
  rw [this]; rfl
theorem s11_body {dc r2 r3 r4 r5 r6 r7 r8 r9 r10 r11 r12 r13 : Option S} {E F N Tn : D} {xs : List D} (h1 : sliceD E none (some 5) = .ok F) (h2 : m_fewest [.int 9999, F] = .ok (.list [Tn])) (h3 : iterAll F = .ok xs)
    (h4 : compL [15] (setD 15) (MM.pure true) c_law_6 xs (stL dc r2 r3 r4 r5 r6 r7 r8 r9 r10 r11 r12 r13 (some (.d E)) none none none) = .ok N (stL dc r2 r3 r4 r5 r6 r7 r8 r9 r10 r11 r12 r13 (some (.d E)) none none none)) (h5 : dTuple [N] = .ok Tn) (h6 : dNe (.list [Tn]) (.list [Tn]) = .ok (.bool false)) :
    s_law_11 (stL dc r2 r3 r4 r5 r6 r7 r8 r9 r10 r11 r12 r13 (some (.d E)) none none none) = .ok .nx (stL dc r2 r3 r4 r5 r6 r7 r8 r9 r10 r11 r12 r13 (some (.d E)) none none none) := by
  unfold s_law_11
  unfold stL at *
  simp [-compL_ap, h1, h2, h3, h4, h5, h6, -dNe_ap]
theorem ok_fa : eqOk (.tuple [.str "fa"]) = true := by decide +kernel
theorem ok_five : eqOk (.list [.tuple fiveN]) = true := by decide +kernel
theorem s11_ok {dc r2 r3 r4 r5 r6 r7 r8 r9 r10 r11 r12 r13 : Option S} : s_law_11 (stL dc r2 r3 r4 r5 r6 r7 r8 r9 r10 r11 r12 r13 (some (.d (encF eightF))) none none none) = .ok .nx (stL dc r2 r3 r4 r5 r6 r7 r8 r9 r10 r11 r12 r13 (some (.d (encF eightF))) none none none) := by
  have hc := compL_mapT (os := [15]) (gt := setD 15) (el := c_law_6) (enc := eF) (f := fun f => .str f.1) (l := fiveF) (ρ := stL dc r2 r3 r4 r5 r6 r7 r8 r9 r10 r11 r12 r13 (some (.d (encF eightF))) none none none) (by decide) (by simp [stL]) fun f m =>
    ⟨stL dc r2 r3 r4 r5 r6 r7 r8 r9 r10 r11 r12 r13 (some (.d (encF eightF))) (some (.d (eF f))) none none, by simp [stL], by simp [stL], by simp [c_law_6, eF, stL]⟩
  exact s11_body cut_5 five_few rfl hc rfl (ne_self ok_five)
theorem s12_body {dc r2 r3 r4 r5 r6 r7 r8 r9 r10 r11 r12 r13 : Option S} {E A : D} (h : m_apart [E] = .ok A) (n : dNe A (.tuple [.str "fa"]) = .ok (.bool false)) : s_law_12 (stL dc r2 r3 r4 r5 r6 r7 r8 r9 r10 r11 r12 r13 (some (.d E)) none none none) = .ok .nx (stL dc r2 r3 r4 r5 r6 r7 r8 r9 r10 r11 r12 r13 (some (.d E)) none none none) := by
  unfold s_law_12 stL
  simp [h, n, -dNe_ap]
theorem s13_body {dc r2 r3 r4 r5 r6 r7 r8 r9 r10 r11 r12 r13 : Option S} {E A : D} (h : m_at_least [.int 999, E] = .ok A) (n : dNe A (.int 8) = .ok (.bool false)) : s_law_13 (stL dc r2 r3 r4 r5 r6 r7 r8 r9 r10 r11 r12 r13 (some (.d E)) none none none) = .ok .nx (stL dc r2 r3 r4 r5 r6 r7 r8 r9 r10 r11 r12 r13 (some (.d E)) none none none) := by
  unfold s_law_13 stL
  simp [h, n, -dNe_ap]
theorem s12_ok {dc r2 r3 r4 r5 r6 r7 r8 r9 r10 r11 r12 r13 : Option S} : s_law_12 (stL dc r2 r3 r4 r5 r6 r7 r8 r9 r10 r11 r12 r13 (some (.d (encF eightF))) none none none) = .ok .nx (stL dc r2 r3 r4 r5 r6 r7 r8 r9 r10 r11 r12 r13 (some (.d (encF eightF))) none none none) := s12_body apart_8 (ne_self ok_fa)
theorem s13_ok {dc r2 r3 r4 r5 r6 r7 r8 r9 r10 r11 r12 r13 : Option S} : s_law_13 (stL dc r2 r3 r4 r5 r6 r7 r8 r9 r10 r11 r12 r13 (some (.d (encF eightF))) none none none) = .ok .nx (stL dc r2 r3 r4 r5 r6 r7 r8 r9 r10 r11 r12 r13 (some (.d (encF eightF))) none none none) := s13_body least_8 (ne_self (eqOk_int 8))
theorem five_word : ∀ u ∈ five5, isWordB u = true := by decide +kernel
theorem five_nd : ∀ n, n ≤ 5 → (five5.take n).Nodup := by decide +kernel
theorem five_st : five5.Pairwise fun a b => leD (.str a) (.str b) = true := by decide +kernel
theorem gfs_of {n : Nat} {fs : List Frm} (h1 : 1 ≤ n) (h5 : n ≤ 5) (hn : fs.map (·.1) = five5.take n) (ok : ∀ f ∈ fs, okF f) : GFs fs ∧ fs.length = n ∧ ∀ u ∈ fs.map (·.1), PyData.strOk u = true := by
  have hl : fs.length = n := by
    have := congrArg List.length hn
    simp [five5] at this
    omega
  have hw : ∀ u ∈ fs.map (·.1), isWordB u = true := fun u m => five_word u (List.mem_of_mem_take (by rw [hn] at m; exact m))
  refine ⟨⟨fun f m => ⟨hw f.1 (List.mem_map.mpr ⟨f, m, rfl⟩), (ok f m).1, by have := (ok f m).2.1; omega, (ok f m).2.2⟩, by omega, by omega, by rw [hn]; exact five_nd n h5, by unfold srt; rw [hn]; exact five_st.sublist (List.take_sublist _ _)⟩, hl, fun u m => strOk_word (hw u m)⟩
theorem apartN_sub (fs : List Frm) (names : List Str) : ∀ k, ∀ u ∈ apartN fs names k, u ∈ names
  | 0, u, h => by simp [apartN] at h
  | k + 1, u, h => by
    rw [apartN] at h
    split at h
    · rename_i l hl
      exact combs_sub names _ l (List.mem_of_find?_eq_some hl) u h
    · exact apartN_sub fs names k u h
theorem s1_body {x y x1 y1 x2 y2 r : Int} {F : D} (h1 : m__law_roll [.int x, .int y] [.int 20] = .ok (.int r, [.int x1, .int y1])) (h2 : m__law_any_forms [.int x1, .int y1] [.int 5] = .ok (F, [.int x2, .int y2])) :
    s_law_1 (roundSt 18 x y) = .ok .nx (stL (some (.dc [.int x2, .int y2])) (some (.d (.int (1 + r)))) (some (.d F)) none none none none none none none none none none none none none none) := by
  simp [s_law_1, roundSt, h1, h2, stL]
theorem wp_stp {s t : MM Fl} {ρ ρ' : MSt} {Q : Fl → MSt → Prop} (h : s ρ = .ok .nx ρ') (k : Wp (t ρ') Q) : Wp (seqS s t ρ) Q := by
  refine wp_seq ?_
  rw [h]
  exact wp_ok.mpr ⟨rfl, k⟩
theorem round_ok : RoundOk 18 b_law := by
  intro x y
  obtain ⟨r, x1, y1, a0, a1, e1⟩ := roll_ok x y 20 (by decide) (by decide)
  obtain ⟨n, fs, x2, y2, n1, n5, hn, ok, e2⟩ := any_forms_ok x1 y1
  obtain ⟨g, hl, hs⟩ := gfs_of n1 n5 hn ok
  have hr : 1 ≤ 1 + r ∧ 1 + r ≤ 9999 := ⟨by omega, by omega⟩
  have l12 : fs.length ≤ 12 := by omega
  have main : Wp (b_law (roundSt 18 x y)) fun fl ρ' => (fl = .nx ∨ fl = .ct) ∧ isDc ρ'[1]? = true ∧ ρ'.length = 19 := by
    unfold b_law
    refine wp_stp (s1_body e1 e2) ?_
    generalize 1 + r = room at *
    refine wp_stp (s2_ok l12 g.st) ?_
    obtain ⟨r6, r7, r8, e3⟩ := due_loop (dc := some (.dc [.int x2, .int y2])) (r2 := some (.d (.int room))) fs l12 ok (fs.map (·.1)) (by simpa using l12) hs fs.length 0 none none none (by omega)
    rw [Nat.zero_add] at e3
    refine wp_stp (s3_body (LL := (fs.length : Int)) (ds := upTo (((0 : Nat) : Int) + 1) fs.length) (by simp [tupS]) (by
      rw [range2_ap, if_pos ⟨by decide, inB_of (by omega) (by omega)⟩]
      have : ((fs.length : Int) + 1 - 1).toNat = fs.length := by omega
      rw [this]; rfl) e3) ?_
    refine wp_stp (s4_ok l12) ?_
    refine wp_stp (s5_ok (fun u m => hs u (apartN_sub fs _ _ u m)) hr (apart_eq g) (at_least_eq g hr)) ?_
    generalize hdue : tupS (apartN fs (fs.map (·.1)) fs.length) = due
    generalize tupS (fs.map (·.1)) = N
    obtain ⟨f, fs', rfl⟩ : ∃ f fs', fs = f :: fs' := by
      cases fs with
      | nil => simp at hl; omega
      | cons f fs' => exact ⟨f, fs', rfl⟩
    refine wp_stp s6_ok ?_
    refine wp_stp s7_ok ?_
    refine wp_stp s8_ok ?_
    obtain ⟨r12, r13, e9⟩ := bads_loop (dc := some (.dc [.int x2, .int y2])) (r2 := some (.d (.int room))) (r3 := some (.d (encF (f :: fs')))) (r4 := some (.d N)) (r5 := some (.d due)) (r6 := r6) (r7 := r7) (r8 := r8) (r9 := some (.d (.int (sumW (f :: fs'))))) (r10 := some (.d (eF f))) (r11 := some (.d (.list (casesA f ++ casesB f)))) (r14 := none) (r15 := none) (r16 := none) (r17 := none) (casesA f ++ casesB f ++ [.list nineD]) none none (fun d m => ⟨cases_bad (g.g f List.mem_cons_self) d m, cases_noLoc f d m⟩)
    refine wp_stp (s9_body (by simp [casesA, casesB]) e9) ?_
    refine wp_stp s10_ok ?_
    refine wp_stp s11_ok ?_
    refine wp_stp s12_ok ?_
    rw [s13_ok]
    exact wp_ok.mpr ⟨.inl rfl, rfl, rfl⟩
  obtain ⟨fl, ρ', e, hf, h1, h2⟩ := main
  rcases hf with rfl | rfl
  · exact ⟨ρ', .inl e, h1, h2⟩
  · exact ⟨ρ', .inr e, h1, h2⟩
end Mi
theorem PySem.Challenge.cw_castinghall_k14_whole_apart_holds : PySem.Challenge.rw_castinghall_k14_whole_apart.Holds := by
  exact Mi.holds_of Mi.round_ok
