import PyProof.Rows.All
import Wide.All
import OpenK.AllK
import Wide.FinOn
import HandS.ForMost
import HandS.Evl
import HandS.Steps
import HandS.IsInst
import HandS.Style
import HandS.StrMore
import HandS.FStr
import HandS.Flow
import HandS.Wide
import HandS.Nested
import HandS.HeadHook2
import HandS.HeadHook4
import HandS.WideBits
import HandS.Deep
import HandS.TupAny
import PyProof.StrOps2
import PyProof.EqKinds
import HandS.Defaults
import HandS.Head0
import HandS.Head1
import HandS.Head2
import HandS.HeadEnd
import HandS.HeadHook1
import HandS.EndTab
import HandS.HeadWalk
import HandS.TupMul
import HandS.RaiseMore
import HandS.Replace
import HandS.ReplaceList
import HandS.Strs
import HandS.SetFor
import HandS.More
import HandS.Codes
import PyProof.FactsAll.list_0
import PyProof.FactsAll.list_4
import PyProof.FactsAll.str_6
import PyProof.FactsAll.str_8
import HandS.Iter
import HandS.Rev
import HandS.Zip
import HandS.SortKw
import KE.DataMinMax
import KE.DataMinKey
import KE.SortKeyHeap
import HandS.TupSets
import HandS.Dict
import HandS.SetTxt0
import KE.SortData
import PyProof.SumAny
import HandS.Exc
import HandS.ExcOwn
import HandS.ExcCtx
import HandS.ExcInit
import HandS.TryMany
import HandS.SuiteRaise
import HandS.WordsExc
import KE.KExcIs
import HandS.ReplaceLit
import HandS.CallSlots
import HandS.SetKeys
import HandS.ListItems
import HandS.WordsDict
import HandS.List
import HandS.DictComp
import HandS.Remove
import HandS.HotCalls
import HandS.ExcInitHot
import HandS.HeadNt
import PySem.Challenge.RW_tierstore_k16_refusals
set_option Elab.async false
set_option linter.all false
set_option maxRecDepth 100000
set_option maxHeartbeats 0
/-! The second level: data without addresses (but for what may change), a reading of every construct as a total function over such data, each bundled with its soundness over the hand layer's readings. -/
namespace T
open PySem L2

abbrev Fg := PySem.W.Frag

/-! ### data -/
inductive D where
  | non | bl (b : Bool) | int (i : Int) | str (s : List Nat) | tup (ds : List D) | lst (ds : List D) | ref (a : Addr) | scr (ns : List Int)
  | exn (a : Addr) (dd : Option Addr) (c f : Str) (d : D) (n : Bool)
  /-- the inner function of the def tag, what it captured -/
  | clo (tag : Str) (d : D)

def Exd (H H' : Hp) : Prop := ∀ a o, H a = some o → H' a = some o
theorem Exd.refl (H : Hp) : Exd H H := fun _ _ h => h
theorem Exd.trans {H H1 H2 : Hp} (a : Exd H H1) (b : Exd H1 H2) : Exd H H2 := fun x o h => b x o (a x o h)
theorem Exd.sql {K : Fg} {H H' : Hp} {a : Addr} {xs : List V} (e : Exd H H') (h : SqL K H a xs) : SqL K H' a xs := Evl.ex_l e h
theorem Exd.sqt {K : Fg} {H H' : Hp} {a : Addr} {xs : List V} (e : Exd H H') (h : SqT K H a xs) : SqT K H' a xs := Evl.ex_t e h
theorem Exd.new {H : Hp} {p : Addr} {o : HO} (h : H p = none) : Exd H (upd H p o) := Evl.Ex.new h

/-- a captured cell -/
def CellO (c : Addr) (v : V) : HO := .ext fun h => ∃ u, L2.RelV v u ∧ h.IsCell c (some u)
def firstDef : List Stmt → Option Stmt
  | [] => none
  | s :: r => match s with
    | .FunctionDef .. => some s
    | _ => firstDef r
def defNm : Stmt → Str
  | .FunctionDef name _ _ _ _ _ _ _ _ _ => name
  | _ => ""
/-- F has the words of the inner function of the def tag -/
def InnerOf (K : Fg) (tag : Str) (F : NdefX.NF) : Prop := ∃ oc od fd osl b st, K.lookup (He.ga K tag) = some ⟨oc, od, .func fd, osl⟩ ∧ fd.body = .stmts b ∧ firstDef b = some st ∧ F.name = defNm st ∧ F.qual = fd.qualname ++ ".<locals>." ++ defNm st ∧ F.params = C8.fnArgs st ∧ F.body = C8.fnBody st ∧ F.scope = C8.fnScope st
/-- at a: an exception that was caught, of the class named c, its dict; n: its context is None -/
def ExT (K : Fg) (a : Addr) (c : Str) (dd : Option Addr) (n : Bool) : HO := .ext fun h => ∃ (oe : Obj) (vs : Array Value), h.get? a = some oe ∧ oe.cls = .ref (He.ga K c) ∧ oe.dict = dd ∧ oe.data = .fields vs ∧ (n = true → vs[2]? = some .none)
mutual
inductive Rep (K : Fg) (Hd : Hp) : V → D → Prop
  | non : Rep K Hd .non .non
  | bl (b : Bool) : Rep K Hd (.bl b) (.bl b)
  | int (i : Int) : Rep K Hd (.int i) (.int i)
  | str (s : List Nat) : Rep K Hd (.str ⟨s.toArray⟩) (.str s)
  | tup {a : Addr} {xs : List V} {ds : List D} : SqT K Hd a xs → RepL K Hd xs ds → Rep K Hd (.ref a) (.tup ds)
  | lst {a : Addr} {xs : List V} {ds : List D} : Hd a = some (.lst xs) → RepL K Hd xs ds → Rep K Hd (.ref a) (.lst ds)
  | scr {a : Addr} {ns : List Int} : SqL K Hd a (ns.map V.int) → Rep K Hd (.ref a) (.scr ns)
  | ref (a : Addr) : Rep K Hd (.ref a) (.ref a)
  | exn0 {a : Addr} {c f : Str} {d : D} {n : Bool} : Hd a = some (ExT K a c none n) → Rep K Hd (.ref a) (.exn a none c f d n)
  | exn1 {a dd : Addr} {c f : Str} {x : V} {d : D} {n : Bool} : Hd a = some (ExT K a c (some dd) n) → Hd dd = some (.xd [(f, x)]) → Rep K Hd x d → Rep K Hd (.ref a) (.exn a (some dd) c f d n)
  | clo {f cc : Addr} {tag x : Str} {F : NdefX.NF} {v : V} {d : D} : InnerOf K tag F → F.cl = [(x, cc)] → (x, NameKind.free) ∈ F.scope.names → Hd f = some (NdefX.FnO f F) → Hd F.c = some (LamX.CodeO F.c F.qual) → Hd cc = some (CellO cc v) → Rep K Hd v d → Rep K Hd (.ref f) (.clo tag d)
inductive RepL (K : Fg) (Hd : Hp) : List V → List D → Prop
  | nil : RepL K Hd [] []
  | cons {x : V} {xs : List V} {d : D} {ds : List D} : Rep K Hd x d → RepL K Hd xs ds → RepL K Hd (x :: xs) (d :: ds)
end

section
variable {K : Fg} {H H' : Hp}
mutual
theorem Rep.mono (e : Exd H H') : ∀ {v : V} {d : D}, Rep K H v d → Rep K H' v d
  | _, _, .non => .non
  | _, _, .bl b => .bl b
  | _, _, .int i => .int i
  | _, _, .str s => .str s
  | _, _, .tup h r => .tup (e.sqt h) (RepL.mono e r)
  | _, _, .lst h r => .lst (e _ _ h) (RepL.mono e r)
  | _, _, .scr h => .scr (e.sql h)
  | _, _, .ref a => .ref a
  | _, _, .exn0 h => .exn0 (e _ _ h)
  | _, _, .exn1 h h2 r => .exn1 (e _ _ h) (e _ _ h2) (Rep.mono e r)
  | _, _, .clo i l fr h1 h2 h3 r => .clo i l fr (e _ _ h1) (e _ _ h2) (e _ _ h3) (Rep.mono e r)
theorem RepL.mono (e : Exd H H') : ∀ {vs : List V} {ds : List D}, RepL K H vs ds → RepL K H' vs ds
  | _, _, .nil => .nil
  | _, _, .cons h r => .cons (Rep.mono e h) (RepL.mono e r)
end
theorem RepL.length : ∀ {vs : List V} {ds : List D}, RepL K H vs ds → vs.length = ds.length
  | _, _, .nil => rfl
  | _, _, .cons _ r => by simp [RepL.length r]
theorem RepL.append : ∀ {vs ws : List V} {ds es : List D}, RepL K H vs ds → RepL K H ws es → RepL K H (vs ++ ws) (ds ++ es)
  | _, _, _, _, .nil, s => s
  | _, _, _, _, .cons h r, s => .cons h (RepL.append r s)
theorem RepL.get : ∀ {vs : List V} {ds : List D} {i : Nat} {d : D}, RepL K H vs ds → ds[i]? = some d → ∃ v, vs[i]? = some v ∧ Rep K H v d
  | _, _, _, _, .nil, e => by simp at e
  | _, _, 0, _, .cons h _, e => by simp at e; subst e; exact ⟨_, rfl, h⟩
  | _, _, i + 1, d, .cons _ r, e => by
    obtain ⟨v, h1, h2⟩ := RepL.get (i := i) (d := d) r (by simpa using e)
    exact ⟨v, by simpa using h1, h2⟩
theorem RepL.getV : ∀ {vs : List V} {ds : List D} {i : Nat} {v : V}, RepL K H vs ds → vs[i]? = some v → ∃ d, ds[i]? = some d ∧ Rep K H v d
  | _, _, _, _, .nil, e => by simp at e
  | _, _, 0, _, .cons h _, e => by simp at e; subst e; exact ⟨_, rfl, h⟩
  | _, _, i + 1, v, .cons _ r, e => by
    obtain ⟨d, h1, h2⟩ := RepL.getV (i := i) (v := v) r (by simpa using e)
    exact ⟨d, by simpa using h1, h2⟩
theorem RepL.take : ∀ {vs : List V} {ds : List D} (n : Nat), RepL K H vs ds → RepL K H (vs.take n) (ds.take n)
  | _, _, 0, _ => by simp; exact .nil
  | _, _, _ + 1, .nil => .nil
  | _, _, n + 1, .cons h r => .cons h (RepL.take n r)
theorem RepL.drop : ∀ {vs : List V} {ds : List D} (n : Nat), RepL K H vs ds → RepL K H (vs.drop n) (ds.drop n)
  | _, _, 0, r => r
  | _, _, _ + 1, .nil => .nil
  | _, _, n + 1, .cons _ r => RepL.drop n r
theorem RepL.set {x : V} {d : D} (h : Rep K H x d) : ∀ {vs : List V} {ds : List D} (i : Nat), RepL K H vs ds → RepL K H (vs.set i x) (ds.set i d)
  | _, _, _, .nil => .nil
  | _, _, 0, .cons _ r => .cons h r
  | _, _, i + 1, .cons q r => .cons q (RepL.set h i r)
theorem RepL.reverse {vs : List V} {ds : List D} (h : RepL K H vs ds) : RepL K H vs.reverse ds.reverse := by
  induction vs generalizing ds with
  | nil => cases h; exact .nil
  | cons v vs ih =>
    cases h with
    | cons h r =>
      rw [List.reverse_cons, List.reverse_cons]
      exact (ih r).append (.cons h .nil)
theorem RepL.nil_iff {vs : List V} {ds : List D} (h : RepL K H vs ds) : vs.isEmpty = ds.isEmpty := by cases h <;> rfl
theorem RepL.ints : ∀ {vs : List V} {ns : List Int}, RepL K H vs (ns.map D.int) → vs = ns.map V.int
  | _, [], h => by cases h; rfl
  | _, n :: ns, h => by
    cases h with
    | cons h r => cases h; rw [RepL.ints r]; rfl
theorem RepL.of_ints : ∀ ns : List Int, RepL K H (ns.map V.int) (ns.map D.int)
  | [] => .nil
  | n :: ns => .cons (.int n) (RepL.of_ints ns)
def sOf (s : List Nat) : Str := ⟨s.toArray⟩
theorem RepL.strs : ∀ {vs : List V} {ns : List (List Nat)}, RepL K H vs (ns.map D.str) → vs = (ns.map sOf).map V.str
  | _, [], h => by cases h; rfl
  | _, n :: ns, h => by
    cases h with
    | cons h r => cases h; rw [RepL.strs r]; rfl
theorem RepL.of_strs : ∀ ns : List (List Nat), RepL K H ((ns.map sOf).map V.str) (ns.map D.str)
  | [] => .nil
  | n :: ns => .cons (.str n) (RepL.of_strs ns)
theorem RepL.bls : ∀ {vs : List V} {ns : List Bool}, RepL K H vs (ns.map D.bl) → vs = ns.map V.bl
  | _, [], h => by cases h; rfl
  | _, n :: ns, h => by
    cases h with
    | cons h r => cases h; rw [RepL.bls r]; rfl
end
/-- the signs of a text -/
abbrev cs (x : Str) : List Nat := x.cps.toList
theorem Rep.cs {K : Fg} {H : Hp} (x : Str) : Rep K H (.str x) (.str (cs x)) := by
  have e : x = ⟨(T.cs x).toArray⟩ := by cases x; simp
  have h : Rep K H (.str ⟨(T.cs x).toArray⟩) (.str (T.cs x)) := .str _
  rw [← e] at h
  exact h

/-! ### cells: what may change -/
inductive Cell where
  | lst (ds : List D)
  | dk (kvs : List (Key × D))
  | dt (kvs : List (List Key × D))
  | ins (c : Str) (fs : List (Str × D))
  /-- dicts that stay as they are from now on -/
  | fk (o : Obj) (xs : List (Key × V)) (kvs : List (Key × D))
  | ft (o : Obj) (xs : List (List Key × V)) (kvs : List (List Key × D))
abbrev Om := Addr → Option Cell
def Om.set (o : Om) (a : Addr) (c : Cell) : Om := fun b => if b = a then some c else o b
theorem Om.set_same {o : Om} {a : Addr} {c : Cell} : o.set a c a = some c := by unfold Om.set; rw [if_pos rfl]
theorem Om.set_ne {o : Om} {a b : Addr} {c : Cell} (h : b ≠ a) : o.set a c b = o b := by unfold Om.set; rw [if_neg h]
theorem Om.set_set {o : Om} {a : Addr} {c d : Cell} : (o.set a c).set a d = o.set a d := by
  funext b; unfold Om.set; split <;> rfl
theorem Om.set_comm {o : Om} {a b : Addr} {c d : Cell} (h : a ≠ b) : (o.set a c).set b d = (o.set b d).set a c := by
  funext x; unfold Om.set
  by_cases h1 : x = a
  · subst h1; simp [h]
  · simp [h1]
theorem Om.set_self {o : Om} {a : Addr} {c : Cell} (h : o a = some c) : o.set a c = o := by
  funext b; unfold Om.set
  by_cases hb : b = a
  · subst hb; rw [if_pos rfl, h]
  · rw [if_neg hb]
def Om.del (o : Om) (a : Addr) : Om := fun b => if b = a then none else o b

theorem rep_tup {K : Fg} {H : Hp} {v : V} {ds : List D} (h : Rep K H v (.tup ds)) : ∃ a xs, v = .ref a ∧ SqT K H a xs ∧ RepL K H xs ds := by
  cases h with
  | tup h r => exact ⟨_, _, rfl, h, r⟩
theorem rep_lst {K : Fg} {H : Hp} {v : V} {ds : List D} (h : Rep K H v (.lst ds)) : ∃ a xs, v = .ref a ∧ H a = some (.lst xs) ∧ RepL K H xs ds := by
  cases h with
  | lst h r => exact ⟨_, _, rfl, h, r⟩
theorem rep_scr {K : Fg} {H : Hp} {v : V} {ns : List Int} (h : Rep K H v (.scr ns)) : ∃ a, v = .ref a ∧ SqL K H a (ns.map V.int) := by
  cases h with
  | scr h => exact ⟨_, rfl, h⟩
def RepK {κ : Type} (K : Fg) (Hd : Hp) : List (κ × V) → List (κ × D) → Prop := Paired fun p q => p.1 = q.1 ∧ Rep K Hd p.2 q.2
theorem RepK.mono {κ : Type} {K : Fg} {H H' : Hp} (e : Exd H H') {xs : List (κ × V)} {ds : List (κ × D)} (h : RepK K H xs ds) : RepK K H' xs ds := Paired.mapP h fun _ _ z => ⟨z.1, z.2.mono e⟩
def RepC (K : Fg) (Hd H : Hp) (a : Addr) : Cell → Prop
  | .lst ds => ∃ xs, H a = some (.lst xs) ∧ RepL K Hd xs ds
  | .dk kvs => ∃ ks, H a = some (.dK ks) ∧ RepK K Hd ks kvs
  | .dt kvs => ∃ ks, H a = some (.dT ks) ∧ RepK K Hd ks kvs
  | .ins c fs => ∃ dx vs, H a = some (.ins (He.ga K c) dx vs) ∧ RepK K Hd vs fs
  | .fk o xs kvs => H a = some (.frz o (.dK xs)) ∧ RepK K Hd xs kvs
  | .ft o xs kvs => H a = some (.frz o (.dT xs)) ∧ RepK K Hd xs kvs
theorem RepC.mono {K : Fg} {Hd Hd' H H' : Hp} {a : Addr} {c : Cell} (e : Exd Hd Hd') (k : ∀ o, H a = some o → H' a = some o) (h : RepC K Hd H a c) : RepC K Hd' H' a c := by
  cases c with
  | lst ds => obtain ⟨xs, h1, h2⟩ := h; exact ⟨xs, k _ h1, h2.mono e⟩
  | dk kvs => obtain ⟨xs, h1, h2⟩ := h; exact ⟨xs, k _ h1, h2.mono e⟩
  | dt kvs => obtain ⟨xs, h1, h2⟩ := h; exact ⟨xs, k _ h1, h2.mono e⟩
  | ins c fs => obtain ⟨dx, xs, h1, h2⟩ := h; exact ⟨dx, xs, k _ h1, h2.mono e⟩
  | fk o xs kvs => obtain ⟨h1, h2⟩ := h; exact ⟨k _ h1, h2.mono e⟩
  | ft o xs kvs => obtain ⟨h1, h2⟩ := h; exact ⟨k _ h1, h2.mono e⟩
theorem RepC.some {K : Fg} {Hd H : Hp} {a : Addr} {c : Cell} (h : RepC K Hd H a c) : ∃ o, H a = some o := by
  cases c with
  | lst ds => obtain ⟨xs, h1, _⟩ := h; exact ⟨_, h1⟩
  | dk kvs => obtain ⟨xs, h1, _⟩ := h; exact ⟨_, h1⟩
  | dt kvs => obtain ⟨xs, h1, _⟩ := h; exact ⟨_, h1⟩
  | ins c fs => obtain ⟨dx, xs, h1, _⟩ := h; exact ⟨_, h1⟩
  | fk o xs kvs => obtain ⟨h1, _⟩ := h; exact ⟨_, h1⟩
  | ft o xs kvs => obtain ⟨h1, _⟩ := h; exact ⟨_, h1⟩
/-- no table, no thing told by a word -/
def NT (o : HO) : Prop := (∀ ps, o ≠ .tbl ps)
theorem repC_plain {K : Fg} {Hd H : Hp} {a : Addr} {c : Cell} (h : RepC K Hd H a c) {o : HO} (e : H a = some o) : NT o ∧ ∀ c' q, o ≠ LamX.CodeO c' q := by
  have key : ∀ u : HO, H a = some u → (∀ ps, u ≠ .tbl ps) → (∀ c' q, u ≠ LamX.CodeO c' q) → NT o ∧ ∀ c' q, o ≠ LamX.CodeO c' q := fun u h1 h2 h3 => by
    rw [e] at h1; cases h1; exact ⟨h2, h3⟩
  cases c with
  | lst ds => obtain ⟨xs, h1, _⟩ := h; exact key _ h1 (fun _ z => by cases z) fun _ _ z => by unfold LamX.CodeO at z; cases z
  | dk kvs => obtain ⟨xs, h1, _⟩ := h; exact key _ h1 (fun _ z => by cases z) fun _ _ z => by unfold LamX.CodeO at z; cases z
  | dt kvs => obtain ⟨xs, h1, _⟩ := h; exact key _ h1 (fun _ z => by cases z) fun _ _ z => by unfold LamX.CodeO at z; cases z
  | ins c fs => obtain ⟨dx, xs, h1, _⟩ := h; exact key _ h1 (fun _ z => by cases z) fun _ _ z => by unfold LamX.CodeO at z; cases z
  | fk o xs kvs => obtain ⟨h1, _⟩ := h; exact key _ h1 (fun _ z => by cases z) fun _ _ z => by unfold LamX.CodeO at z; cases z
  | ft o xs kvs => obtain ⟨h1, _⟩ := h; exact key _ h1 (fun _ z => by cases z) fun _ _ z => by unfold LamX.CodeO at z; cases z
/-- a table, a code object stay where another thing is written -/
theorem tabs_put {T : List NdefX.NTab} {H : Hp} {p : Addr} {o u : HO} (t : NdefX.TabsN T H) (hp : H p = some u) (hn : NT u) (hc : ∀ c' q, u ≠ LamX.CodeO c' q) : NdefX.TabsN T (upd H p o) := fun x hx => by
  obtain ⟨ps, h1, h2, h3⟩ := t x hx
  have n1 : x.1 ≠ p := fun z => by rw [z, hp] at h1; exact hn ps (Option.some.inj h1)
  refine ⟨ps, (upd_ne n1).trans h1, h2, fun pos cv hv => ?_⟩
  obtain ⟨c, e1, e2⟩ := h3 pos cv hv
  refine ⟨c, e1, (upd_ne fun z => ?_).trans e2⟩
  rw [z, hp] at e2
  exact hc _ _ (Option.some.inj e2)
theorem tabs_new {T : List NdefX.NTab} {H : Hp} {p : Addr} {o : HO} (t : NdefX.TabsN T H) (hp : H p = none) : NdefX.TabsN T (upd H p o) := t.ext fun b u e => (upd_ne (ne_of_none e hp)).trans e

/-! ### the defs' tables of code objects -/
/-- what a def's inner function is named -/
def innerOf : List Stmt → Str
  | [] => "<lambda>"
  | .FunctionDef name _ _ _ _ _ _ _ _ _ :: _ => name
  | _ :: r => innerOf r
/-- the tables of the defs in K, the name that each tells -/
def tabOne (K : Fg) (p : Addr × Obj) : Option (Addr × Str) := match p.2.data with
  | .func fd => (match fd.code, fd.body with
    | .ref c, .stmts b => if PySem.W.codeHdIn K c (He.tabOf K c) && (K.lookup (He.tabOf K c)).isNone then some (He.tabOf K c, fd.qualname ++ ".<locals>." ++ innerOf b) else none
    | _, _ => none)
  | _ => none
def tabsOf (K : Fg) : List (Addr × Str) := K.filterMap (tabOne K)
def tabsN (K : Fg) : List NdefX.NTab := (tabsOf K).map fun p => (p.1, fun _ _ => p.2)
/-! ### states -/
/-- d: the part of the heap that stays; h: the heap; o: the cells; t: the tables of code objects -/
structure Z where
  d : Hp
  h : Hp
  o : Om
  t : List NdefX.NTab
structure Z.Ok (K : Fg) (z : Z) : Prop where
  fz : Exd z.d z.h
  cell : ∀ a c, z.o a = some c → z.d a = none ∧ RepC K z.d z.h a c
  tab : NdefX.TabsN z.t z.h
  tk : z.t = tabsN K
  nd : ∀ a o, z.d a = some o → NT o
structure To (K : Fg) (z z2 : Z) : Prop where
  ok : z2.Ok K
  ex : Exd z.d z2.d
  keep : ∀ a o, z.h a = some o → z.o a = none → NT o → z2.h a = some o
  kept : ∀ a, z.h a ≠ none → z2.h a ≠ none
  tt : z2.t = z.t
  fresh : ∀ a, z2.o a ≠ none → z.o a ≠ none ∨ z.h a = none
  freshd : ∀ a, z2.d a ≠ none → z.d a ≠ none ∨ z.h a = none ∨ z.o a ≠ none ∨ ∃ o, z.h a = some o ∧ ∀ xs, o ≠ .lst xs
section
variable {K : Fg} {z z1 z2 z3 : Z}
theorem Z.Ok.to (h : z.Ok K) : To K z z := ⟨h, .refl _, fun _ _ e _ _ => e, fun _ e => e, rfl, fun _ e => .inl e, fun _ e => .inl e⟩
theorem To.free (a : To K z z2) {p : Addr} (h : z2.h p = none) : z.h p = none := by
  cases e : z.h p with
  | none => rfl
  | some o => exact absurd h (a.kept p (by rw [e]; simp))
theorem To.trans (a : To K z z2) (b : To K z2 z3) : To K z z3 where
  ok := b.ok
  ex := a.ex.trans b.ex
  keep := fun p o h n nt => b.keep p o (a.keep p o h n nt) (by
    cases e : z2.o p with
    | none => rfl
    | some c =>
      rcases a.fresh p (by simp [e]) with q | q
      · exact absurd n q
      · rw [h] at q; cases q) nt
  kept := fun p h => b.kept p (a.kept p h)
  tt := b.tt.trans a.tt
  fresh := fun p h => by
    rcases b.fresh p h with q | q
    · exact a.fresh p q
    · exact .inr (a.free q)
  freshd := fun p h => by
    rcases b.freshd p h with q | q | q | ⟨o, q, n⟩
    · exact a.freshd p q
    · exact .inr (.inl (a.free q))
    · rcases a.fresh p q with r | r
      · exact .inr (.inr (.inl r))
      · exact .inr (.inl r)
    · cases e : z.h p with
      | none => exact .inr (.inl rfl)
      | some u =>
        cases f : z.o p with
        | some c => exact .inr (.inr (.inl (by simp)))
        | none =>
          refine .inr (.inr (.inr ⟨u, rfl, fun xs g => ?_⟩))
          have := a.keep p u e f (by intro _ w; rw [g] at w; cases w)
          rw [q] at this
          exact n xs (by rw [Option.some.inj this, g])
theorem Z.Ok.free (k : z.Ok K) {p : Addr} (h : z.h p = none) : z.d p = none ∧ z.o p = none := by
  constructor
  · cases e : z.d p with
    | none => rfl
    | some o => have := k.fz p o e; rw [h] at this; cases this
  · cases e : z.o p with
    | none => rfl
    | some c =>
      obtain ⟨o, ho⟩ := (k.cell p c e).2.some
      rw [h] at ho; cases ho
theorem upd_kept {H : Hp} {p : Addr} {o : HO} (a : Addr) (h : H a ≠ none) : upd H p o a ≠ none := by
  by_cases q : a = p
  · subst q; rw [upd_same]; simp
  · rw [upd_ne q]; exact h
/-- a new thing that stays -/
theorem nd_upd {d : Hp} {p : Addr} {o : HO} (k : ∀ a u, d a = some u → NT u) (h : NT o) : ∀ a u, upd d p o a = some u → NT u := fun a u e => by
  by_cases q : a = p
  · subst q; rw [upd_same] at e; cases e; exact h
  · rw [upd_ne q] at e; exact k a u e
theorem Z.Ok.add (k : z.Ok K) {p : Addr} {o : HO} (h : z.h p = none) (nt : NT o := by intro _ z; cases z) : To K z ⟨upd z.d p o, upd z.h p o, z.o, z.t⟩ := by
  obtain ⟨hd, ho⟩ := k.free h
  refine ⟨⟨fun a u e => ?_, fun a c e => ?_, tabs_new k.tab h, k.tk, nd_upd k.nd nt⟩, Exd.new hd, fun a u e _ _ => ?_, upd_kept, rfl, fun _ e => .inl e, fun a e => ?_⟩
  · show upd z.h p o a = some u
    have e : upd z.d p o a = some u := e
    by_cases q : a = p
    · subst q; rw [upd_same] at e ⊢; exact e
    · rw [upd_ne q] at e ⊢; exact k.fz a u e
  · have ne : a ≠ p := fun q => by subst q; rw [show z.o a = some c from e] at ho; cases ho
    obtain ⟨c1, c2⟩ := k.cell a c e
    exact ⟨(upd_ne ne).trans c1, c2.mono (Exd.new hd) fun u e => (upd_ne ne).trans e⟩
  · exact (upd_ne (ne_of_none e h)).trans e
  · by_cases q : a = p
    · subst q; exact .inr (.inl h)
    · exact .inl (by have e : upd z.d p o a ≠ none := e; rw [upd_ne q] at e; exact e)
/-- a new cell -/
theorem Z.Ok.lay (k : z.Ok K) {p : Addr} {o : HO} {c : Cell} (h : z.h p = none) (r : RepC K z.d (upd z.h p o) p c) : To K z ⟨z.d, upd z.h p o, z.o.set p c, z.t⟩ := by
  obtain ⟨hd, ho⟩ := k.free h
  refine ⟨⟨fun a u e => ?_, fun a c' e => ?_, tabs_new k.tab h, k.tk, k.nd⟩, .refl _, fun a u e _ _ => ?_, upd_kept, rfl, fun a e => ?_, fun a e => .inl e⟩
  · exact (upd_ne (ne_of_none (k.fz a u e) h)).trans (k.fz a u e)
  · by_cases q : a = p
    · subst q
      have e : z.o.set a c a = some c' := e
      rw [Om.set_same] at e; cases e
      exact ⟨hd, r⟩
    · have e : z.o.set p c a = some c' := e
      rw [Om.set_ne q] at e
      obtain ⟨c1, c2⟩ := k.cell a c' e
      exact ⟨c1, c2.mono (.refl _) fun u e => (upd_ne q).trans e⟩
  · exact (upd_ne (ne_of_none e h)).trans e
  · by_cases q : a = p
    · subst q; exact .inr h
    · exact .inl (by have e : z.o.set p c a ≠ none := e; rw [Om.set_ne q] at e; exact e)
/-- a cell changes -/
theorem Z.Ok.put (k : z.Ok K) {p : Addr} {o : HO} {c c' : Cell} (h : z.o p = some c) (r : RepC K z.d (upd z.h p o) p c') : To K z ⟨z.d, upd z.h p o, z.o.set p c', z.t⟩ := by
  obtain ⟨hd, hc⟩ := k.cell p c h
  obtain ⟨u0, hu0⟩ := hc.some
  obtain ⟨n1, n2⟩ := repC_plain hc hu0
  refine ⟨⟨fun a u e => ?_, fun a c1 e => ?_, tabs_put k.tab hu0 n1 n2, k.tk, k.nd⟩, .refl _, fun a u e n _ => ?_, upd_kept, rfl, fun a e => ?_, fun a e => .inl e⟩
  · have ne : a ≠ p := fun q => by subst q; rw [show z.d a = some u from e] at hd; cases hd
    exact (upd_ne ne).trans (k.fz a u e)
  · by_cases q : a = p
    · subst q
      have e : z.o.set a c' a = some c1 := e
      rw [Om.set_same] at e; cases e
      exact ⟨hd, r⟩
    · have e : z.o.set p c' a = some c1 := e
      rw [Om.set_ne q] at e
      obtain ⟨c2, c3⟩ := k.cell a c1 e
      exact ⟨c2, c3.mono (.refl _) fun u e => (upd_ne q).trans e⟩
  · exact (upd_ne (fun q => by subst q; rw [n] at h; cases h)).trans e
  · by_cases q : a = p
    · subst q; exact .inl (by rw [h]; simp)
    · exact .inl (by have e : z.o.set p c' a ≠ none := e; rw [Om.set_ne q] at e; exact e)
/-- a cell stays from now on -/
theorem Z.Ok.freeze (k : z.Ok K) {p : Addr} {o : HO} {c : Cell} (h : z.o p = some c) (ho : z.h p = some o) : To K z ⟨upd z.d p o, z.h, z.o.del p, z.t⟩ := by
  obtain ⟨hd, hc0⟩ := k.cell p c h
  refine ⟨⟨fun a u e => ?_, fun a c1 e => ?_, k.tab, k.tk, nd_upd k.nd (repC_plain hc0 ho).1⟩, Exd.new hd, fun a u e _ _ => e, fun _ e => e, rfl, fun a e => ?_, fun a e => ?_⟩
  · by_cases q : a = p
    · subst q
      have e : upd z.d a o a = some u := e
      rw [upd_same] at e; cases e; exact ho
    · have e : upd z.d p o a = some u := e
      rw [upd_ne q] at e; exact k.fz a u e
  · have e : (if a = p then none else z.o a) = some c1 := e
    by_cases q : a = p
    · rw [if_pos q] at e; cases e
    · rw [if_neg q] at e
      obtain ⟨c2, c3⟩ := k.cell a c1 e
      exact ⟨(upd_ne q).trans c2, c3.mono (Exd.new hd) fun u e => e⟩
  · have e : (if a = p then none else z.o a) ≠ none := e
    by_cases q : a = p
    · rw [if_pos q] at e; exact absurd rfl e
    · rw [if_neg q] at e; exact .inl e
  · by_cases q : a = p
    · subst q; exact .inr (.inr (.inl (by rw [h]; simp)))
    · exact .inl (by have e : upd z.d p o a ≠ none := e; rw [upd_ne q] at e; exact e)
end

/-! ### the slots -/
abbrev En := List (Option D)
structure RepE (K : Fg) (Hd : Hp) (σ : St) (ρ : En) : Prop where
  len : σ.length = ρ.length
  at_ : ∀ (i : Nat) (d : D), ρ[i]? = some (some d) → ∃ v, σ[i]? = some (some v) ∧ Rep K Hd v d
theorem RepE.mono {K : Fg} {H H' : Hp} {σ : St} {ρ : En} (e : Exd H H') (r : RepE K H σ ρ) : RepE K H' σ ρ := ⟨r.len, fun i d h => let ⟨v, h1, h2⟩ := r.at_ i d h; ⟨v, h1, h2.mono e⟩⟩
theorem RepE.set {K : Fg} {H : Hp} {σ : St} {ρ : En} {v : V} {d : D} (r : RepE K H σ ρ) (i : Nat) (h : Rep K H v d) : RepE K H (σ.set i (some v)) (ρ.set i (some d)) := by
  refine ⟨by rw [List.length_set, List.length_set]; exact r.len, fun j e hj => ?_⟩
  by_cases q : i = j
  · subst q
    by_cases hi : i < ρ.length
    · rw [List.getElem?_set_self hi] at hj
      cases hj
      exact ⟨v, List.getElem?_set_self (by rw [r.len]; exact hi), h⟩
    · rw [List.getElem?_eq_none (by simpa using hi)] at hj; cases hj
  · rw [List.getElem?_set_ne q] at hj
    obtain ⟨w, h1, h2⟩ := r.at_ j e hj
    exact ⟨w, by rw [List.getElem?_set_ne q]; exact h1, h2⟩
theorem RepE.del {K : Fg} {H : Hp} {σ : St} {ρ : En} (r : RepE K H σ ρ) (i : Nat) (x : Option V) : RepE K H (σ.set i x) (ρ.set i none) := by
  refine ⟨by rw [List.length_set, List.length_set]; exact r.len, fun j e hj => ?_⟩
  by_cases q : i = j
  · subst q
    by_cases hi : i < ρ.length
    · rw [List.getElem?_set_self hi] at hj; cases hj
    · rw [List.getElem?_eq_none (by simpa using hi)] at hj; cases hj
  · rw [List.getElem?_set_ne q] at hj
    obtain ⟨w, h1, h2⟩ := r.at_ j e hj
    exact ⟨w, by rw [List.getElem?_set_ne q]; exact h1, h2⟩
def wipeD (ρ : En) : List Nat → En
  | [] => ρ
  | v :: vs => (wipeD ρ vs).set v none
theorem RepE.wipe {K : Fg} {H : Hp} {σ : St} {ρ : En} (r : RepE K H σ ρ) : ∀ vs : List Nat, RepE K H (wipe σ vs) (wipeD ρ vs)
  | [] => r
  | v :: vs => (RepE.wipe r vs).del v none

/-! ### exceptions -/
/-- its class's name; its field, if it has one -/
structure Exn where
  c : Str
  f : Option (Str × D)
def RepX (K : Fg) (z : Z) (cls : Value) (d : Option Addr) (x : Exn) : Prop := cls = .ref (He.ga K x.c) ∧ match x.f with
  | none => d = none
  | some p => ∃ a v, d = some a ∧ z.d a = some (.xd [(p.1, v)]) ∧ Rep K z.d v p.2

/-! ### bundles -/
abbrev WPe := En → Om → (D → Om → Prop) → (Exn → Om → Prop) → Prop
structure BE (K : Fg) where
  t : WX → TE
  w : WPe
  ok : ∀ (W : WX) (ρ : En) (z : Z) (σ : St) (Q : VK) (Φ : D → Om → Prop) (Ψ : Exn → Om → Prop), w ρ z.o Φ Ψ → z.Ok K → RepE K z.d σ ρ →
    (∀ v z2 d, To K z z2 → Rep K z2.d v d → Φ d z2.o → Q v z2.h) → (∀ x cls d z2, To K z z2 → RepX K z2 cls d x → Ψ x z2.o → W cls d σ z2.h) → t W σ z.h Q
structure BT (K : Fg) where
  t : WX → TT
  w : En → Om → (Bool → Om → Prop) → (Exn → Om → Prop) → Prop
  ok : ∀ (W : WX) (ρ : En) (z : Z) (σ : St) (Q : Bool → Hp → Prop) (Φ : Bool → Om → Prop) (Ψ : Exn → Om → Prop), w ρ z.o Φ Ψ → z.Ok K → RepE K z.d σ ρ →
    (∀ b z2, To K z z2 → Φ b z2.o → Q b z2.h) → (∀ x cls d z2, To K z z2 → RepX K z2 cls d x → Ψ x z2.o → W cls d σ z2.h) → t W σ z.h Q
structure BA (K : Fg) where
  t : WX → TA
  w : En → Om → (List D → Om → Prop) → (Exn → Om → Prop) → Prop
  ok : ∀ (W : WX) (ρ : En) (z : Z) (σ : St) (Q : List V → Hp → Prop) (Φ : List D → Om → Prop) (Ψ : Exn → Om → Prop), w ρ z.o Φ Ψ → z.Ok K → RepE K z.d σ ρ →
    (∀ vs z2 ds, To K z z2 → RepL K z2.d vs ds → Φ ds z2.o → Q vs z2.h) → (∀ x cls d z2, To K z z2 → RepX K z2 cls d x → Ψ x z2.o → W cls d σ z2.h) → t W σ z.h Q
structure KD where
  nx : En → Om → Prop
  rt : D → Om → Prop
  bk : En → Om → Prop
  ct : En → Om → Prop
  xc : Exn → En → Om → Prop
structure KOk (K : Fg) (W : WX) (z : Z) (k : KD) (D' : Ends) : Prop where
  nx : ∀ σ2 ρ2 z2, To K z z2 → RepE K z2.d σ2 ρ2 → k.nx ρ2 z2.o → D'.nx σ2 z2.h
  rt : ∀ v d z2, To K z z2 → Rep K z2.d v d → k.rt d z2.o → D'.rt v z2.h
  bk : ∀ σ2 ρ2 z2, To K z z2 → RepE K z2.d σ2 ρ2 → k.bk ρ2 z2.o → D'.bk σ2 z2.h
  ct : ∀ σ2 ρ2 z2, To K z z2 → RepE K z2.d σ2 ρ2 → k.ct ρ2 z2.o → D'.ct σ2 z2.h
  xc : ∀ x cls d σ2 ρ2 z2, To K z z2 → RepE K z2.d σ2 ρ2 → RepX K z2 cls d x → k.xc x ρ2 z2.o → W cls d σ2 z2.h
theorem KOk.to {K : Fg} {W : WX} {z z1 : Z} {k : KD} {D' : Ends} (h : KOk K W z k D') (t : To K z z1) : KOk K W z1 k D' :=
  ⟨fun _ _ _ a => h.nx _ _ _ (t.trans a), fun _ _ _ a => h.rt _ _ _ (t.trans a), fun _ _ _ a => h.bk _ _ _ (t.trans a), fun _ _ _ a => h.ct _ _ _ (t.trans a), fun _ _ _ _ _ _ a => h.xc _ _ _ _ _ _ (t.trans a)⟩
structure BS (K : Fg) where
  t : WX → TS
  w : En → Om → KD → Prop
  ok : ∀ (W : WX) (ρ : En) (z : Z) (σ : St) (D' : Ends) (k : KD), w ρ z.o k → z.Ok K → RepE K z.d σ ρ → KOk K W z k D' → t W D' σ z.h
/-- a target -/
structure BG (K : Fg) where
  t : TG
  w : D → En → Om → (En → Om → Prop) → Prop
  ok : ∀ (d : D) (v : V) (ρ : En) (z : Z) (σ : St) (Q : St → Hp → Prop) (Φ : En → Om → Prop), w d ρ z.o Φ → z.Ok K → RepE K z.d σ ρ → Rep K z.d v d →
    (∀ σ2 ρ2 z2, To K z z2 → RepE K z2.d σ2 ρ2 → Φ ρ2 z2.o → Q σ2 z2.h) → t v σ z.h Q

section
variable {K : Fg}
/-! ### names, constants -/
def bVar (i : Nat) : BE K where
  t := fun _ => tVar i
  w := fun ρ ω Φ _ => match ρ[i]? with
    | some (some d) => Φ d ω
    | _ => False
  ok := fun W ρ z σ Q Φ Ψ h k r q _ => by
    split at h
    · rename_i d e
      obtain ⟨v, h1, h2⟩ := r.at_ i d e
      exact ⟨v, h1, q v z d k.to h2 h⟩
    · exact h.elim
def bCon (v : V) (d : D) (hr : ∀ H, Rep K H v d) : BE K where
  t := fun _ => tC v
  w := fun _ ω Φ _ => Φ d ω
  ok := fun W ρ z σ Q Φ Ψ h k r q _ => q v z d k.to (hr _) h
abbrev bInt (i : Int) : BE K := bCon (.int i) (.int i) fun _ => .int i
abbrev bBl (b : Bool) : BE K := bCon (.bl b) (.bl b) fun _ => .bl b
abbrev bNon : BE K := bCon .non .non fun _ => .non
abbrev bStr (x : Str) : BE K := bCon (.str x) (.str (cs x)) fun _ => Rep.cs x

/-! ### operations -/
/-- an operation over values: its reading, its reading over data -/
structure O2 (K : Fg) where
  r : R2
  w : D → D → Om → (D → Om → Prop) → Prop
  ok : ∀ (z : Z) (x y : V) (d e : D) (Q : VK) (Φ : D → Om → Prop), w d e z.o Φ → z.Ok K → Rep K z.d x d → Rep K z.d y e → (∀ v z2 c, To K z z2 → Rep K z2.d v c → Φ c z2.o → Q v z2.h) → r x y z.h Q
def bOp (o : O2 K) (a b : BE K) : BE K where
  t := fun W => tOp o.r (a.t W) (b.t W)
  w := fun ρ ω Φ Ψ => a.w ρ ω (fun x ω1 => b.w ρ ω1 (fun y ω2 => o.w x y ω2 Φ) Ψ) Ψ
  ok := fun W ρ z σ Q Φ Ψ h k r q qx => by
    refine a.ok W ρ z σ _ _ Ψ h k r (fun x z1 d t1 r1 h1 => ?_) qx
    refine b.ok W ρ z1 σ _ _ Ψ h1 t1.ok (r.mono t1.ex) (fun y z2 e t2 r2 h2 => ?_) fun x cls d z2 t2 => qx x cls d z2 (t1.trans t2)
    exact o.ok z2 x y d e Q Φ h2 t2.ok (r1.mono t2.ex) r2 fun v z3 c t3 => q v z3 c ((t1.trans t2).trans t3)
/-- one of two readings -/
def O2.or (o p : O2 K) (w : D → D → Om → (D → Om → Prop) → Prop) (h : ∀ d e ω Φ, w d e ω Φ → o.w d e ω Φ ∨ p.w d e ω Φ) : O2 K where
  r := fun x y H Q => o.r x y H Q ∨ p.r x y H Q
  w := w
  ok := fun z x y d e Q Φ hw k r1 r2 q => by
    rcases h d e z.o Φ hw with h | h
    · exact .inl (o.ok z x y d e Q Φ h k r1 r2 q)
    · exact .inr (p.ok z x y d e Q Φ h k r1 r2 q)
def oI0 (g : Int → Int → V) (gd : Int → Int → D) (hg : ∀ i j H, Rep K H (g i j) (gd i j)) : O2 K where
  r := rI0 g
  w := fun x y ω Φ => match x, y with
    | .int i, .int j => Φ (gd i j) ω
    | _, _ => False
  ok := fun z x y d e Q Φ h k r1 r2 q => by
    split at h
    · cases r1; cases r2
      exact ⟨_, _, rfl, rfl, q _ z _ k.to (hg _ _ _) h⟩
    · exact h.elim
def oI (C : Int → Int → Prop) (g : Int → Int → V) (gd : Int → Int → D) (hg : ∀ i j H, Rep K H (g i j) (gd i j)) : O2 K where
  r := rI C g
  w := fun x y ω Φ => match x, y with
    | .int i, .int j => C i j ∧ Φ (gd i j) ω
    | _, _ => False
  ok := fun z x y d e Q Φ h k r1 r2 q => by
    split at h
    · cases r1; cases r2
      exact ⟨_, _, rfl, rfl, h.1, q _ z _ k.to (hg _ _ _) h.2⟩
    · exact h.elim
end
end T

/-! Operations, comparisons, subscripts, slices. -/
namespace T
open PySem L2
theorem cs_append (x y : Str) : cs (x ++ y) = cs x ++ cs y := TL.tl_append x y
theorem sOf_append (s t : List Nat) : (⟨s.toArray⟩ : Str) ++ ⟨t.toArray⟩ = ⟨(s ++ t).toArray⟩ := by
  have h := cs_append ⟨s.toArray⟩ ⟨t.toArray⟩
  have e : ∀ x : Str, x = ⟨(cs x).toArray⟩ := fun x => by cases x; simp
  rw [e (⟨s.toArray⟩ ++ ⟨t.toArray⟩), h]
theorem sOf_len (s : List Nat) : (⟨s.toArray⟩ : Str).length = s.length := by show s.toArray.size = s.length; simp
theorem sOf_inj {s t : List Nat} : ((⟨s.toArray⟩ : Str) = ⟨t.toArray⟩) ↔ s = t := by
  constructor
  · intro h
    injection h with h
    simpa using h
  · rintro rfl; rfl
theorem sOf_cs (x : Str) : (⟨(cs x).toArray⟩ : Str) = x := by cases x; simp

section
variable {K : Fg}

/-! ### + -/
def oAddStr : O2 K where
  r := fun x y H Q => ∃ i j, x = .str i ∧ y = .str j ∧ i.length + j.length ≤ sizeLine ∧ Q (.str (i ++ j)) H
  w := fun x y ω Φ => match x, y with
    | .str s, .str t => s.length + t.length ≤ sizeLine ∧ Φ (.str (s ++ t)) ω
    | _, _ => False
  ok := fun z x y d e Q Φ h k r1 r2 q => by
    split at h
    · rename_i s t
      cases r1; cases r2
      refine ⟨_, _, rfl, rfl, by rw [sOf_len, sOf_len]; exact h.1, ?_⟩
      rw [sOf_append]
      exact q _ z _ k.to (.str _) h.2
    · exact h.elim
/-- what is read as a list: the items -/
def lstOf (ω : Om) : D → Option (List D)
  | .lst ds => some ds
  | .ref a => match ω a with
    | some (.lst ds) => some ds
    | _ => none
  | _ => none
theorem lst_of {z : Z} (k : z.Ok K) {v : V} {d : D} {ds : List D} (r : Rep K z.d v d) (h : lstOf z.o d = some ds) : ∃ a xs, v = .ref a ∧ z.h a = some (.lst xs) ∧ RepL K z.d xs ds := by
  cases r with
  | lst h1 h2 =>
    cases h
    exact ⟨_, _, rfl, k.fz _ _ h1, h2⟩
  | ref a =>
    cases e : z.o a with
    | none => simp [lstOf, e] at h
    | some c =>
      cases c with
      | lst es =>
        simp [lstOf, e] at h
        subst h
        obtain ⟨_, xs, h1, h2⟩ := k.cell a _ e
        exact ⟨a, xs, rfl, h1, h2⟩
      | _ => simp [lstOf, e] at h
  | _ => simp [lstOf] at h
/-- list + list: a new list that stays -/
def oAddLst : O2 K where
  r := rCat
  w := fun x y ω Φ => ∃ ds es, lstOf ω x = some ds ∧ lstOf ω y = some es ∧ ds.length + es.length ≤ sizeLine ∧ Φ (.lst (ds ++ es)) ω
  ok := fun z x y d e Q Φ h k r1 r2 q => by
    obtain ⟨ds, es, h1, h2, h3, h4⟩ := h
    obtain ⟨a, xs, rfl, ha, rx⟩ := lst_of k r1 h1
    obtain ⟨b, ys, rfl, hb, ry⟩ := lst_of k r2 h2
    refine ⟨a, b, xs, ys, rfl, rfl, ha, hb, by rw [rx.length, ry.length]; exact h3, fun p hp => ?_⟩
    have t := k.add (o := .lst (xs ++ ys)) hp
    exact q _ _ _ t (.lst (upd_same) ((rx.append ry).mono t.ex)) h4
/-- .. that may change -/
def oAddLstO : O2 K where
  r := rCat
  w := fun x y ω Φ => ∃ ds es, lstOf ω x = some ds ∧ lstOf ω y = some es ∧ ds.length + es.length ≤ sizeLine ∧ ∀ a, ω a = none → Φ (.ref a) (ω.set a (.lst (ds ++ es)))
  ok := fun z x y d e Q Φ h k r1 r2 q => by
    obtain ⟨ds, es, h1, h2, h3, h4⟩ := h
    obtain ⟨a, xs, rfl, ha, rx⟩ := lst_of k r1 h1
    obtain ⟨b, ys, rfl, hb, ry⟩ := lst_of k r2 h2
    refine ⟨a, b, xs, ys, rfl, rfl, ha, hb, by rw [rx.length, ry.length]; exact h3, fun p hp => ?_⟩
    have t := k.lay (o := .lst (xs ++ ys)) (c := .lst (ds ++ es)) hp ⟨_, upd_same, rx.append ry⟩
    exact q _ _ _ t (.ref p) (h4 p (k.free hp).2)
def oAddTup : O2 K where
  r := rCatA K
  w := fun x y ω Φ => match x, y with
    | .tup ds, .tup es => ds.length + es.length ≤ sizeLine ∧ Φ (.tup (ds ++ es)) ω
    | _, _ => False
  ok := fun z x y d e Q Φ h k r1 r2 q => by
    split at h
    · rename_i ds es
      obtain ⟨a, xs, rfl, h1, rx⟩ := rep_tup r1
      obtain ⟨b, ys, rfl, h2, ry⟩ := rep_tup r2
      refine ⟨a, b, xs, ys, rfl, rfl, k.fz.sqt h1, k.fz.sqt h2, by rw [rx.length, ry.length]; exact h.1, fun e => ?_, fun _ e => ?_, fun _ e p hp => ?_⟩
      · subst e; cases rx
        exact q _ z _ k.to (.tup h2 ry) h.2
      · subst e; cases ry
        refine q _ z _ k.to (.tup h1 rx) ?_
        have := h.2
        simpa using this
      · have t := k.add (o := .tup (xs ++ ys)) hp
        exact q _ _ _ t (.tup (SqT.of upd_same) ((rx.append ry).mono t.ex)) h.2
    · exact h.elim
def addW (x y : D) (ω : Om) (Φ : D → Om → Prop) : Prop := match x, y with
  | .int i, .int j => Φ (.int (i + j)) ω
  | .str s, .str t => s.length + t.length ≤ sizeLine ∧ Φ (.str (s ++ t)) ω
  | .tup ds, .tup es => ds.length + es.length ≤ sizeLine ∧ Φ (.tup (ds ++ es)) ω
  | x, y => ∃ ds es, lstOf ω x = some ds ∧ lstOf ω y = some es ∧ ds.length + es.length ≤ sizeLine ∧ Φ (.lst (ds ++ es)) ω
def oAdd : O2 K := ((oI0 (fun i j => .int (i + j)) (fun i j => .int (i + j)) (fun _ _ _ => .int _)).or (oAddStr.or (oAddTup.or oAddLst (fun x y ω Φ => oAddTup (K := K).w x y ω Φ ∨ oAddLst (K := K).w x y ω Φ) fun _ _ _ _ h => h)
  (fun x y ω Φ => oAddStr (K := K).w x y ω Φ ∨ (oAddTup (K := K).w x y ω Φ ∨ oAddLst (K := K).w x y ω Φ)) fun _ _ _ _ h => h) addW (by
    intro d e ω Φ h
    unfold addW at h
    split at h
    · exact .inl h
    · exact .inr (.inl h)
    · exact .inr (.inr (.inl h))
    · exact .inr (.inr (.inr h))))
def addWO (x y : D) (ω : Om) (Φ : D → Om → Prop) : Prop := ∃ ds es, lstOf ω x = some ds ∧ lstOf ω y = some es ∧ ds.length + es.length ≤ sizeLine ∧ ∀ a, ω a = none → Φ (.ref a) (ω.set a (.lst (ds ++ es)))
def oAddO : O2 K := ((oI0 (fun i j => .int (i + j)) (fun i j => .int (i + j)) (fun _ _ _ => .int _)).or (oAddStr.or (oAddTup.or oAddLstO (fun x y ω Φ => oAddTup (K := K).w x y ω Φ ∨ oAddLstO (K := K).w x y ω Φ) fun _ _ _ _ h => h)
  (fun x y ω Φ => oAddStr (K := K).w x y ω Φ ∨ (oAddTup (K := K).w x y ω Φ ∨ oAddLstO (K := K).w x y ω Φ)) fun _ _ _ _ h => h) addWO (fun _ _ _ _ h => .inr (.inr (.inr h))))
theorem op_oAdd {X : Cx} : OpR X (binaryOp .Add) (oAdd (K := X.K)).r := op_add.or (op_add_str.or (op_catA.or op_cat))
theorem op_oAddO {X : Cx} : OpR X (binaryOp .Add) (oAddO (K := X.K)).r := op_add.or (op_add_str.or (op_catA.or op_cat))

/-! ### -, *, //, %, **, <<, >>, &, |, ^ -/
def oSub : O2 K := oI0 (fun i j => .int (i - j)) (fun i j => .int (i - j)) fun _ _ _ => .int _
theorem op_oSub {X : Cx} : OpR X (binaryOp .Sub) (oSub (K := X.K)).r := op_sub
/-- s * n -/
def rMulStr : R2 := fun x y H Q => ∃ (s : Str) (n : Int), x = .str s ∧ y = .int n ∧ n ≤ 100000 ∧ -100000 ≤ n ∧ s.length ≤ 100 ∧ Q (.str ⟨((List.replicate n.toNat (cs s)).flatten).toArray⟩) H
theorem foldl_arr (l : List Nat) : ∀ (m : Nat) (acc : Array Nat), (List.replicate m l.toArray).foldl (· ++ ·) acc = acc ++ ((List.replicate m l).flatten).toArray
  | 0, acc => by simp
  | m + 1, acc => by
    rw [List.replicate_succ, List.foldl_cons, foldl_arr l m, List.replicate_succ, List.flatten_cons]
    simp
theorem flat_len {α : Type} (l : List α) : ∀ m : Nat, ((List.replicate m l).flatten).length = m * l.length
  | 0 => by simp
  | m + 1 => by rw [List.replicate_succ, List.flatten_cons, List.length_append, flat_len l m, Nat.succ_mul]; omega
theorem op_mulStr {X : Cx} : OpR X (binaryOp .Mult) rMulStr := by
  intro pins s σ H x y v u Q I rx ry h
  obtain ⟨z, n, rfl, rfl, h1, h2, h3, q⟩ := h
  obtain ⟨t, rfl⟩ := rx
  obtain ⟨t', rfl⟩ := ry
  have hz : ∀ m : Nat, m ≤ 100000 → z.length * m ≤ 10000000 := fun m hm => Nat.le_trans (Nat.mul_le_mul h3 hm) (by decide)
  have hm : n.toNat ≤ 100000 := by omega
  have hfl : ((List.replicate n.toNat (cs z)).flatten).length ≤ 10000000 := by
    rw [flat_len, Nat.mul_comm]
    exact hz _ hm
  refine PySem.P.mul_str ?_ ?_ ?_ ?_
  · rw [decide_eq_false (by omega), decide_eq_false (by omega)]; rfl
  · intro a1 a2 a3
    have : (z.length : Int) ≤ 100 := by omega
    have hn : 0 < n := by omega
    have : (100 : Int) ≤ (2 ^ 63 - 1) / n := by
      rw [Int.le_ediv_iff_mul_le hn]
      omega
    omega
  · intro a1 a2
    have hz := hz n.toNat hm
    unfold PySem.Builtin.Str.tooLong
    exact decide_eq_false (by have : (sizeLine : Nat) = 16777216 := sizeLine_eq; omega)
  · by_cases c : n < 1
    · rw [if_pos c]
      have e0 : n.toNat = 0 := by omega
      rw [e0] at q
      refine ⟨by decide, ?_⟩
      exact ⟨.str Str.empty, H, I.tok _, ⟨_, rfl⟩, q⟩
    · rw [if_neg c]
      by_cases c2 : (n == 1 || z.length == 0) = true
      · rw [if_pos c2]
        refine ⟨.str z, H, I, ⟨_, rfl⟩, ?_⟩
        rw [Bool.or_eq_true] at c2
        rcases c2 with c2 | c2
        · have : n.toNat = 1 := by have := eq_of_beq c2; omega
          rw [this] at q
          simpa using q
        · have : z.cps.size = 0 := eq_of_beq c2
          have e : cs z = [] := by
            apply List.eq_nil_of_length_eq_zero
            simpa using this
          rw [e] at q
          have e3 : (List.replicate n.toNat ([] : List Nat)).flatten = [] := by
            apply List.eq_nil_of_length_eq_zero
            rw [flat_len]; rfl
          rw [e3] at q
          have : z = ⟨#[]⟩ := by rw [← sOf_cs z, e]
          rw [this]
          exact q
      · rw [if_neg c2]
        have e : z.cps = (cs z).toArray := by simp
        have e2 : (List.replicate n.toNat z.cps).foldl (· ++ ·) #[] = ((List.replicate n.toNat (cs z)).flatten).toArray := by
          rw [e, foldl_arr]; simp
        have hl : ((List.replicate n.toNat z.cps).foldl (· ++ ·) #[]).size ≤ sizeLine := by
          rw [e2, List.size_toArray]
          exact Nat.le_trans hfl (by decide)
        refine ⟨hl, ?_⟩
        rw [e2]
        exact ⟨.str _, H, I.tok _, ⟨_, rfl⟩, q⟩
def oMulStr : O2 K where
  r := rMulStr
  w := fun x y ω Φ => match x, y with
    | .str s, .int n => n ≤ 100000 ∧ -100000 ≤ n ∧ s.length ≤ 100 ∧ Φ (.str (List.replicate n.toNat s).flatten) ω
    | _, _ => False
  ok := fun z x y d e Q Φ h k r1 r2 q => by
    split at h
    · cases r1; cases r2
      refine ⟨_, _, rfl, rfl, h.1, h.2.1, by rw [sOf_len]; exact h.2.2.1, q _ z _ k.to ?_ h.2.2.2⟩
      simp only [cs, List.toList_toArray]
      exact .str _
    · exact h.elim
def CMulA (i j : Int) : Prop := CMul i j ∨ CMulX i j
theorem op_mulA {X : Cx} : OpR X (binaryOp .Mult) (rI CMulA fun i j => .int (i * j)) := by
  intro pins s σ H x y v u Q I rx ry h
  obtain ⟨i, j, e1, e2, c, q⟩ := h
  rcases c with c | c
  · exact op_mul pins s σ H x y v u Q I rx ry ⟨i, j, e1, e2, c, q⟩
  · exact op_mulX pins s σ H x y v u Q I rx ry ⟨i, j, e1, e2, c, q⟩
/-- list * n: a new list that may change -/
def oMulLst (own : Bool) : O2 K where
  r := rRep
  w := fun x y ω Φ => match y with
    | .int n => ∃ ds, lstOf ω x = some ds ∧ -100000 ≤ n ∧ n ≤ 100000 ∧ ds.length ≤ 100 ∧ (if own = true then ∀ a, ω a = none → Φ (.ref a) (ω.set a (.lst (List.replicate n.toNat ds).flatten)) else Φ (.lst (List.replicate n.toNat ds).flatten) ω)
    | _ => False
  ok := fun z x y d e Q Φ h k r1 r2 q => by
    split at h
    · rename_i n
      obtain ⟨ds, h1, h2, h3, h4, h5⟩ := h
      obtain ⟨a, xs, rfl, ha, rx⟩ := lst_of k r1 h1
      cases r2
      have rr : ∀ m : Nat, RepL K z.d (List.replicate m xs).flatten (List.replicate m ds).flatten := fun m => by
        induction m with
        | zero => exact .nil
        | succ m ih =>
          rw [List.replicate_succ, List.flatten_cons, List.replicate_succ, List.flatten_cons]
          exact rx.append ih
      refine ⟨a, n, xs, rfl, rfl, ha, by omega, by omega, ?_, fun p hp => ?_⟩
      · have : xs.length * n.toNat ≤ 100 * 100000 := Nat.mul_le_mul (by rw [rx.length]; exact h4) (by omega)
        exact Nat.le_trans this (by decide)
      · cases own with
        | true =>
          have t := k.lay (o := .lst (List.replicate n.toNat xs).flatten) (c := .lst (List.replicate n.toNat ds).flatten) hp ⟨_, upd_same, rr _⟩
          exact q _ _ _ t (.ref p) (h5 p (k.free hp).2)
        | false =>
          have t := k.add (o := .lst (List.replicate n.toNat xs).flatten) hp
          exact q _ _ _ t (.lst upd_same ((rr _).mono t.ex)) h5
    · exact h.elim
def mulW (x y : D) (ω : Om) (Φ : D → Om → Prop) : Prop := match x, y with
  | .int i, .int j => CMulA i j ∧ Φ (.int (i * j)) ω
  | .str s, .int n => n ≤ 100000 ∧ -100000 ≤ n ∧ s.length ≤ 100 ∧ Φ (.str (List.replicate n.toNat s).flatten) ω
  | _, _ => False
def oMul : O2 K := (oI CMulA (fun i j => .int (i * j)) (fun i j => .int (i * j)) (fun _ _ _ => .int _)).or oMulStr mulW (by
  intro d e ω Φ h
  unfold mulW at h
  split at h
  · exact .inl h
  · exact .inr h
  · exact h.elim)
theorem op_oMul {X : Cx} : OpR X (binaryOp .Mult) (oMul (K := X.K)).r := op_mulA.or op_mulStr
theorem op_oMulLst {X : Cx} {b : Bool} : OpR X (binaryOp .Mult) (oMulLst (K := X.K) b).r := op_rep

def CDivA (i j : Int) : Prop := 0 < j ∧ (j < 1073741824 ∨ j.natAbs.log2 < 9000)
theorem op_divA {X : Cx} : OpR X (binaryOp .FloorDiv) (rI CDivA fun i j => .int (i / j)) := by
  intro pins s σ H x y v u Q I rx ry h
  obtain ⟨i, j, e1, e2, ⟨c1, c | c⟩, q⟩ := h
  · exact op_fdiv pins s σ H x y v u Q I rx ry ⟨i, j, e1, e2, ⟨c1, c⟩, q⟩
  · exact op_fdivW pins s σ H x y v u Q I rx ry ⟨i, j, e1, e2, ⟨c1, c⟩, q⟩
def oDiv : O2 K := oI CDivA (fun i j => .int (i / j)) (fun i j => .int (i / j)) fun _ _ _ => .int _
theorem op_oDiv {X : Cx} : OpR X (binaryOp .FloorDiv) (oDiv (K := X.K)).r := op_divA
def oMod : O2 K := oI (fun _ j => 0 < j) (fun i j => .int (i % j)) (fun i j => .int (i % j)) fun _ _ _ => .int _
theorem op_oMod {X : Cx} : OpR X (binaryOp .Mod) (oMod (K := X.K)).r := op_mod
def oPow : O2 K := oI CPow (fun i j => .int (i ^ j.toNat)) (fun i j => .int (i ^ j.toNat)) fun _ _ _ => .int _
theorem op_oPow {X : Cx} : OpR X (binaryOp .Pow) (oPow (K := X.K)).r := op_pow
def CShA (i j : Int) : Prop := CPow i j ∨ CShl i j
theorem op_shlA {X : Cx} : OpR X (binaryOp .LShift) (rI CShA fun i j => .int (i * 2 ^ j.toNat)) := by
  intro pins s σ H x y v u Q I rx ry h
  obtain ⟨i, j, e1, e2, c | c, q⟩ := h
  · exact op_shl pins s σ H x y v u Q I rx ry ⟨i, j, e1, e2, c, q⟩
  · exact op_shlW pins s σ H x y v u Q I rx ry ⟨i, j, e1, e2, c, q⟩
def oShl : O2 K := oI CShA (fun i j => .int (i * 2 ^ j.toNat)) (fun i j => .int (i * 2 ^ j.toNat)) fun _ _ _ => .int _
theorem op_oShl {X : Cx} : OpR X (binaryOp .LShift) (oShl (K := X.K)).r := op_shlA
def oShr : O2 K := oI (fun _ j => 0 ≤ j) (fun i j => .int (i / 2 ^ j.toNat)) (fun i j => .int (i / 2 ^ j.toNat)) fun _ _ _ => .int _
theorem op_oShr {X : Cx} : OpR X (binaryOp .RShift) (oShr (K := X.K)).r := op_shr
def oAnd : O2 K := oI0 (fun i j => .int (PySem.Builtin.bitAnd i j)) (fun i j => .int (PySem.Builtin.bitAnd i j)) fun _ _ _ => .int _
theorem op_oAnd {X : Cx} : OpR X (binaryOp .BitAnd) (oAnd (K := X.K)).r := op_and
def oOr : O2 K := oI0 (fun i j => .int (PySem.Builtin.bitOr i j)) (fun i j => .int (PySem.Builtin.bitOr i j)) fun _ _ _ => .int _
theorem op_oOr {X : Cx} : OpR X (binaryOp .BitOr) (oOr (K := X.K)).r := op_or
def oXor : O2 K := oI0 (fun i j => .int (PySem.Builtin.bitXor i j)) (fun i j => .int (PySem.Builtin.bitXor i j)) fun _ _ _ => .int _
theorem op_oXor {X : Cx} : OpR X (binaryOp .BitXor) (oXor (K := X.K)).r := op_xor
/-- -x -/
def bNeg (a : BE K) : BE K where
  t := fun W => tUn (rU fun i => .int (-i)) (a.t W)
  w := fun ρ ω Φ Ψ => a.w ρ ω (fun x ω1 => match x with
    | .int i => Φ (.int (-i)) ω1
    | _ => False) Ψ
  ok := fun W ρ z σ Q Φ Ψ h k r q qx => by
    refine a.ok W ρ z σ _ _ Ψ h k r (fun x z1 d t1 r1 h1 => ?_) qx
    split at h1
    · cases r1
      exact ⟨_, rfl, q _ z1 _ t1 (.int _) h1⟩
    · exact h1.elim

/-! ### <, <=, >, >= -/
def cmpW (f : Int → Int → Bool) (g : List Nat → List Nat → Bool) (x y : D) (ω : Om) (Φ : D → Om → Prop) : Prop := match x, y with
  | .int i, .int j => Φ (.bl (f i j)) ω
  | .str s, .str t => Φ (.bl (g s t)) ω
  | _, _ => False
def oCmpS (g : List Nat → List Nat → Bool) : O2 K where
  r := fun x y H Q => ∃ i j, x = .str i ∧ y = .str j ∧ Q (.bl (g i.cps.toList j.cps.toList)) H
  w := fun x y ω Φ => match x, y with
    | .str s, .str t => Φ (.bl (g s t)) ω
    | _, _ => False
  ok := fun z x y d e Q Φ h k r1 r2 q => by
    split at h
    · cases r1; cases r2
      exact ⟨_, _, rfl, rfl, q _ z _ k.to (.bl _) h⟩
    · exact h.elim
def oCmp (f : Int → Int → Bool) (g : List Nat → List Nat → Bool) : O2 K := (oI0 (fun i j => .bl (f i j)) (fun i j => .bl (f i j)) (fun _ _ _ => .bl _)).or (oCmpS g) (cmpW f g) (by
  intro d e ω Φ h
  unfold cmpW at h
  split at h
  · exact .inl h
  · exact .inr h
  · exact h.elim)
def ltS (s t : List Nat) : Bool := decide (s < t)
def oLt : O2 K := oCmp (fun i j => decide (i < j)) ltS
def oLe : O2 K := oCmp (fun i j => decide (i ≤ j)) fun s t => !ltS t s
def oGt : O2 K := oCmp (fun i j => decide (j < i)) fun s t => ltS t s
def oGe : O2 K := oCmp (fun i j => decide (j ≤ i)) fun s t => !ltS s t
theorem op_oLt {X : Cx} : OpR X (compareOp .Lt) (oLt (K := X.K)).r := op_lt.or op_lt_str
theorem op_oLe {X : Cx} : OpR X (compareOp .LtE) (oLe (K := X.K)).r := op_le.or op_le_str
theorem op_oGt {X : Cx} : OpR X (compareOp .Gt) (oGt (K := X.K)).r := op_gt.or op_gt_str
theorem op_oGe {X : Cx} : OpR X (compareOp .GtE) (oGe (K := X.K)).r := op_ge.or op_ge_str

/-! ### ==, != -/
mutual
def pyW (g : Addr → Option PyData) : D → Option PyData
  | .non => some .none
  | .bl b => some (.bool b)
  | .int i => some (.int i)
  | .str s => some (.str ⟨s.toArray⟩)
  | .tup ds => (pyWL g ds).map .tuple
  | .lst ds => (pyWL g ds).map .list
  | .ref a => g a
  | .scr ns => some (.list (ns.map .int))
  | .exn .. => none
  | .clo .. => none
def pyWL (g : Addr → Option PyData) : List D → Option (List PyData)
  | [] => some []
  | d :: ds => match pyW g d, pyWL g ds with
    | some p, some ps => some (p :: ps)
    | _, _ => none
end
/-- data, lists that may change read as they stand, to depth n -/
def pyF : Nat → Om → D → Option PyData
  | 0, _ => pyW fun _ => none
  | n + 1, ω => pyW fun a => match ω a with
    | some (.lst ds) => (ds.mapM (pyF n ω)).map .list
    | _ => none
theorem dpAll_ints {H : Hp} : ∀ ns : List Int, DpAll K H (ns.map V.int) (ns.map PyData.int)
  | [] => .nil
  | n :: ns => .cons (.int n) (dpAll_ints ns)
mutual
theorem pyW_ok {z : Z} (k : z.Ok K) {g : Addr → Option PyData} (hg : ∀ a p, g a = some p → Dp K z.h (.ref a) p) : ∀ (d : D) (v : V) (p : PyData), Rep K z.d v d → pyW g d = some p → Dp K z.h v p
  | .non, _, _, r, h => by cases r; simp [pyW] at h; subst h; exact .non
  | .bl b, _, _, r, h => by cases r; simp [pyW] at h; subst h; exact .bl _
  | .int i, _, _, r, h => by cases r; simp [pyW] at h; subst h; exact .int _
  | .str s, _, _, r, h => by cases r; simp [pyW] at h; subst h; exact .str _
  | .tup ds, v, p, r, h => by
    obtain ⟨a, xs, rfl, h1, h2⟩ := rep_tup r
    simp only [pyW] at h
    cases e : pyWL g ds with
    | none => rw [e] at h; simp at h
    | some ps =>
      rw [e] at h; simp at h; subst h
      exact .tup (k.fz.sqt h1) (pyWL_ok k hg ds xs ps h2 e)
  | .lst ds, v, p, r, h => by
    obtain ⟨a, xs, rfl, h1, h2⟩ := rep_lst r
    simp only [pyW] at h
    cases e : pyWL g ds with
    | none => rw [e] at h; simp at h
    | some ps =>
      rw [e] at h; simp at h; subst h
      exact .lst (SqL.of (k.fz _ _ h1)) (pyWL_ok k hg ds xs ps h2 e)
  | .ref a, v, p, r, h => by cases r; simp only [pyW] at h; exact hg _ _ h
  | .scr ns, v, p, r, h => by
    obtain ⟨a, rfl, h1⟩ := rep_scr r
    simp only [pyW] at h
    cases h
    exact .lst (k.fz.sql h1) (dpAll_ints ns)
  | .exn .., v, p, r, h => by simp only [pyW] at h; cases h
  | .clo .., v, p, r, h => by simp only [pyW] at h; cases h
theorem pyWL_ok {z : Z} (k : z.Ok K) {g : Addr → Option PyData} (hg : ∀ a p, g a = some p → Dp K z.h (.ref a) p) : ∀ (ds : List D) (vs : List V) (ps : List PyData), RepL K z.d vs ds → pyWL g ds = some ps → DpAll K z.h vs ps
  | [], _, _, r, h => by cases r; simp [pyWL] at h; subst h; exact .nil
  | d :: ds, _, _, r, h => by
    cases r with
    | cons r1 r2 =>
    simp only [pyWL] at h
    cases e1 : pyW g d with
    | none => rw [e1] at h; simp at h
    | some p =>
      cases e2 : pyWL g ds with
      | none => rw [e1, e2] at h; simp at h
      | some ps =>
        rw [e1, e2] at h; simp at h; subst h
        exact .cons (pyW_ok k hg d _ p r1 e1) (pyWL_ok k hg ds _ ps r2 e2)
end
theorem pyF_ok {z : Z} (k : z.Ok K) : ∀ (n : Nat) (d : D) (v : V) (p : PyData), Rep K z.d v d → pyF n z.o d = some p → Dp K z.h v p
  | 0, d, v, p, r, h => pyW_ok k (fun _ _ e => by cases e) d v p r h
  | n + 1, d, v, p, r, h => by
    refine pyW_ok k (fun a q e => ?_) d v p r h
    split at e
    · rename_i ds hc
      cases em : ds.mapM (pyF n z.o) with
      | none => rw [em] at e; simp at e
      | some qs =>
        rw [em] at e; simp at e; subst e
        obtain ⟨_, xs, h1, h2⟩ := k.cell a _ hc
        refine .lst (SqL.of h1) ?_
        clear hc h1
        induction ds generalizing xs qs with
        | nil => cases h2; simp at em; subst em; exact .nil
        | cons d ds ih =>
          cases h2 with
          | cons r1 r2 =>
          rw [List.mapM_cons] at em
          cases e1 : pyF n z.o d with
          | none => rw [e1] at em; simp at em
          | some p1 =>
            rw [e1] at em
            cases e2 : ds.mapM (pyF n z.o) with
            | none => rw [e2] at em; simp at em
            | some ps =>
              rw [e2] at em; simp at em; subst em
              exact .cons (pyF_ok k n d _ p1 r1 e1) (ih _ e2 _ r2)
    · cases e
def eqDW (neg : Bool) (x y : D) (ω : Om) (Φ : D → Om → Prop) : Prop := ∃ p q, pyF 3 ω x = some p ∧ pyF 3 ω y = some q ∧ SeqAt.shaped p = true ∧ SeqAt.shaped q = true ∧ Φ (.bl (if neg then !PyData.eqv p q else PyData.eqv p q)) ω
def oEqD : O2 K where
  r := rEqD K
  w := eqDW false
  ok := fun z x y d e Q Φ h k r1 r2 q => by
    obtain ⟨p, p', h1, h2, h3, h4, h5⟩ := h
    exact ⟨p, p', pyF_ok k _ _ _ _ r1 h1, pyF_ok k _ _ _ _ r2 h2, h3, h4, q _ z _ k.to (.bl _) h5⟩
def oNeD : O2 K where
  r := rNeD K
  w := eqDW true
  ok := fun z x y d e Q Φ h k r1 r2 q => by
    obtain ⟨p, p', h1, h2, h3, h4, h5⟩ := h
    exact ⟨p, p', pyF_ok k _ _ _ _ r1 h1, pyF_ok k _ _ _ _ r2 h2, h3, h4, q _ z _ k.to (.bl _) h5⟩
def eqSW (neg : Bool) (x y : D) (ω : Om) (Φ : D → Om → Prop) : Prop := match x, y with
  | .int i, .int j => Φ (.bl (if neg then !decide (i = j) else decide (i = j))) ω
  | .str s, .str t => Φ (.bl (if neg then !decide (s = t) else decide (s = t))) ω
  | .bl a, .bl b => Φ (.bl (if neg then !decide (a = b) else decide (a = b))) ω
  | .non, .non => Φ (.bl (!neg)) ω
  | .non, .int _ => Φ (.bl neg) ω
  | .int _, .non => Φ (.bl neg) ω
  | .non, .str _ => Φ (.bl neg) ω
  | .str _, .non => Φ (.bl neg) ω
  | .non, .bl _ => Φ (.bl neg) ω
  | .bl _, .non => Φ (.bl neg) ω
  | .int _, .str _ => Φ (.bl neg) ω
  | .str _, .int _ => Φ (.bl neg) ω
  | .bl _, .str _ => Φ (.bl neg) ω
  | .str _, .bl _ => Φ (.bl neg) ω
  | _, _ => False
theorem eqS_ok {neg : Bool} {z : Z} {x y : V} {d e : D} {Φ : D → Om → Prop} (h : eqSW neg d e z.o Φ) (r1 : Rep K z.d x d) (r2 : Rep K z.d y e) : scal x y = true ∧ Φ (.bl (if neg then !decide (x = y) else decide (x = y))) z.o := by
  unfold eqSW at h
  split at h <;> (first | (exact h.elim) | skip) <;> cases r1 <;> cases r2 <;> refine ⟨rfl, ?_⟩ <;> simpa [V.str.injEq, sOf_inj] using h
def oEqS : O2 K where
  r := rEq
  w := eqSW false
  ok := fun z x y d e Q Φ h k r1 r2 q => by
    obtain ⟨h1, h2⟩ := eqS_ok h r1 r2
    exact ⟨h1, q _ z _ k.to (.bl _) h2⟩
def oNeS : O2 K where
  r := rNe
  w := eqSW true
  ok := fun z x y d e Q Φ h k r1 r2 q => by
    obtain ⟨h1, h2⟩ := eqS_ok h r1 r2
    exact ⟨h1, q _ z _ k.to (.bl _) h2⟩
def eqW (neg : Bool) (x y : D) (ω : Om) (Φ : D → Om → Prop) : Prop := match x, y with
  | .int i, .int j => Φ (.bl (if neg then !decide (i = j) else decide (i = j))) ω
  | .str s, .str t => Φ (.bl (if neg then !decide (s = t) else decide (s = t))) ω
  | .bl a, .bl b => Φ (.bl (if neg then !decide (a = b) else decide (a = b))) ω
  | .non, .non => Φ (.bl (!neg)) ω
  | .non, .int _ => Φ (.bl neg) ω
  | .int _, .non => Φ (.bl neg) ω
  | .non, .str _ => Φ (.bl neg) ω
  | .str _, .non => Φ (.bl neg) ω
  | .non, .bl _ => Φ (.bl neg) ω
  | .bl _, .non => Φ (.bl neg) ω
  | .int _, .str _ => Φ (.bl neg) ω
  | .str _, .int _ => Φ (.bl neg) ω
  | .bl _, .str _ => Φ (.bl neg) ω
  | .str _, .bl _ => Φ (.bl neg) ω
  | x, y => eqDW neg x y ω Φ
theorem eqW_or {neg : Bool} {d e : D} {ω : Om} {Φ : D → Om → Prop} (h : eqW neg d e ω Φ) : eqSW neg d e ω Φ ∨ eqDW neg d e ω Φ := by
  unfold eqW at h
  split at h <;> first | exact .inl h | exact .inr h
def oEq : O2 K := oEqS.or oEqD (eqW false) fun _ _ _ _ h => eqW_or h
def oNe : O2 K := oNeS.or oNeD (eqW true) fun _ _ _ _ h => eqW_or h
theorem op_oEq {X : Cx} (hu : X.A.units + 64 < cLine) : OpR X (compareOp .Eq) (oEq (K := X.K)).r := op_eq.or (op_eqD hu)
theorem op_oNe {X : Cx} (hu : X.A.units + 64 < cLine) : OpR X (compareOp .NotEq) (oNe (K := X.K)).r := op_ne.or (op_neD hu)

/-! ### is, is not -/
def isW (neg : Bool) (x y : D) (ω : Om) (Φ : D → Om → Prop) : Prop := match x, y with
  | .bl a, .bl b => Φ (.bl (if neg then !decide (a = b) else decide (a = b))) ω
  | .non, .non => Φ (.bl (!neg)) ω
  | _, .non => Φ (.bl neg) ω
  | _, _ => False
def oIsN (neg : Bool) : O2 K where
  r := if neg then rNotN else rIsN
  w := fun x y ω Φ => match x, y with
    | .non, .non => Φ (.bl (!neg)) ω
    | _, .non => Φ (.bl neg) ω
    | _, _ => False
  ok := fun z x y d e Q Φ h k r1 r2 q => by
    have : y = .non ∧ Q (.bl (if neg then !decide (x = .non) else decide (x = .non))) z.h := by
      split at h
      · cases r1; cases r2
        refine ⟨rfl, ?_⟩
        have := q _ z _ k.to (.bl _) h
        cases neg <;> simpa using this
      · rename_i hn
        cases r2
        refine ⟨rfl, ?_⟩
        have hx : x ≠ .non := by
          rintro rfl
          cases r1
          exact hn rfl
        have := q _ z _ k.to (.bl _) h
        cases neg <;> simpa [hx] using this
      · exact h.elim
    cases neg
    · exact this
    · exact this
def oIsB (neg : Bool) : O2 K where
  r := if neg then rNotB else rIsB
  w := fun x y ω Φ => match x, y with
    | .bl a, .bl b => Φ (.bl (if neg then !decide (a = b) else decide (a = b))) ω
    | _, _ => False
  ok := fun z x y d e Q Φ h k r1 r2 q => by
    split at h
    · cases r1; cases r2
      have := q _ z _ k.to (.bl _) h
      cases neg
      · exact ⟨_, _, rfl, rfl, this⟩
      · exact ⟨_, _, rfl, rfl, this⟩
    · exact h.elim
def oIs (neg : Bool) : O2 K := (oIsN neg).or (oIsB neg) (isW neg) (by
  intro d e ω Φ h
  unfold isW at h
  split at h
  · exact .inr h
  · exact .inl h
  · rename_i hn
    refine .inl ?_
    cases d <;> first | exact absurd rfl hn | exact h
  · exact h.elim)
theorem op_oIs {X : Cx} : OpR X (compareOp .Is) (oIs (K := X.K) false).r := op_isN1.or op_isBl
theorem op_oIsNot {X : Cx} : OpR X (compareOp .IsNot) (oIs (K := X.K) true).r := op_notN1.or op_notBl
end
end T

/-! Subscripts, slices, in, displays, tests, boolean values, conditional expressions, chains, calls. -/
namespace T
open PySem L2
section
variable {K : Fg}
theorem rep_int {H : Hp} {v : V} {i : Int} (h : Rep K H v (.int i)) : v = .int i := by cases h; rfl
theorem rep_str {H : Hp} {v : V} {s : List Nat} (h : Rep K H v (.str s)) : v = .str ⟨s.toArray⟩ := by cases h; rfl
theorem rep_bl {H : Hp} {v : V} {b : Bool} (h : Rep K H v (.bl b)) : v = .bl b := by cases h; rfl
theorem rep_non {H : Hp} {v : V} (h : Rep K H v .non) : v = .non := by cases h; rfl
theorem rep_ref {H : Hp} {v : V} {a : Addr} (h : Rep K H v (.ref a)) : v = .ref a := by cases h; rfl

/-! ### x[i] -/
theorem atI_rep {H : Hp} {xs : List V} {ds : List D} {i : Int} {d : D} (r : RepL K H xs ds) (h : atI ds i = some d) : ∃ v, atI xs i = some v ∧ Rep K H v d := by
  unfold atI at h ⊢
  rw [r.length]
  cases e : ixN ds.length i with
  | none => rw [e] at h; cases h
  | some j =>
    rw [e] at h
    exact r.get h
theorem atI_map {α β : Type} (f : α → β) (xs : List α) (i : Int) : atI (xs.map f) i = (atI xs i).map f := by
  unfold atI
  rw [List.length_map]
  cases ixN xs.length i with
  | none => rfl
  | some j => simp
theorem atI_nn {α : Type} {xs : List α} {i : Int} (h : 0 ≤ i) : atI xs i = xs[i.toNat]? := by
  unfold atI ixN
  rw [if_pos h]
  split
  · rfl
  · rename_i c
    rw [List.getElem?_eq_none (by omega)]; rfl
/-- what x[i] is -/
def ixW (x y : D) (ω : Om) (Φ : D → Om → Prop) : Prop := match x, y with
  | .str s, .int i => s.length ≤ sizeLine ∧ ∃ c, atI s i = some c ∧ Φ (.str [c]) ω
  | .tup ds, .int i => ∃ d, atI ds i = some d ∧ Φ d ω
  | .scr ns, .int i => ∃ n, atI ns i = some n ∧ Φ (.int n) ω
  | x, .int i => ∃ ds d, lstOf ω x = some ds ∧ atI ds i = some d ∧ Φ d ω
  | _, _ => False
def oIx : O2 K where
  r := rIx K
  w := ixW
  ok := fun z x y d e Q Φ h k r1 r2 q => by
    unfold ixW at h
    split at h
    · obtain ⟨h1, c, h2, h3⟩ := h
      cases r1; cases r2
      exact .inr (.inr ⟨_, _, c, rfl, rfl, by rw [sOf_len]; exact h1, by simpa using h2, q _ z _ k.to (.str [c]) h3⟩)
    · obtain ⟨d, h1, h2⟩ := h
      obtain ⟨a, xs, rfl, ha, rx⟩ := rep_tup r1
      cases r2
      obtain ⟨v, e1, e2⟩ := atI_rep rx h1
      exact .inr (.inl ⟨a, xs, _, v, rfl, rfl, k.fz.sqt ha, e1, q _ z _ k.to e2 h2⟩)
    · obtain ⟨n, h1, h2⟩ := h
      obtain ⟨a, rfl, ha⟩ := rep_scr r1
      cases r2
      exact .inl ⟨a, _, _, .int n, rfl, rfl, k.fz.sql ha, by rw [atI_map, h1]; rfl, q _ z _ k.to (.int n) h2⟩
    · obtain ⟨ds, d, h0, h1, h2⟩ := h
      obtain ⟨a, xs, rfl, ha, rx⟩ := lst_of k r1 h0
      cases r2
      obtain ⟨v, e1, e2⟩ := atI_rep rx h1
      exact .inl ⟨a, xs, _, v, rfl, rfl, SqL.of ha, e1, q _ z _ k.to e2 h2⟩
    · exact h.elim
theorem ix_oIx {X : Cx} : IxR X (oIx (K := X.K)).r := ix_seq

/-! ### x[a:b] -/
structure BO (K : Fg) where
  t : WX → TO
  w : En → Om → (Option Int → Om → Prop) → (Exn → Om → Prop) → Prop
  ok : ∀ (W : WX) (ρ : En) (z : Z) (σ : St) (Q : Option Int → Hp → Prop) (Φ : Option Int → Om → Prop) (Ψ : Exn → Om → Prop), w ρ z.o Φ Ψ → z.Ok K → RepE K z.d σ ρ →
    (∀ o z2, To K z z2 → Φ o z2.o → Q o z2.h) → (∀ x cls d z2, To K z z2 → RepX K z2 cls d x → Ψ x z2.o → W cls d σ z2.h) → t W σ z.h Q
def boN : BO K where
  t := fun _ => tNoPart
  w := fun _ ω Φ _ => Φ none ω
  ok := fun W ρ z σ Q Φ Ψ h k r q _ => q none z k.to h
def boS (a : BE K) : BO K where
  t := fun W => tPart (a.t W)
  w := fun ρ ω Φ Ψ => a.w ρ ω (fun x ω1 => match x with
    | .int i => Φ (some i) ω1
    | _ => False) Ψ
  ok := fun W ρ z σ Q Φ Ψ h k r q qx => by
    refine a.ok W ρ z σ _ _ Ψ h k r (fun x z1 d t1 r1 h1 => ?_) qx
    split at h1
    · cases r1
      exact ⟨_, rfl, q _ z1 t1 h1⟩
    · exact h1.elim
/-- the cut of a list -/
def cut {α : Type} (xs : List α) (lo hi : Option Int) : List α := (xs.drop (HT.sIx xs.length 0 lo)).take (HT.sIx xs.length xs.length hi - HT.sIx xs.length 0 lo)
theorem cut_rep {H : Hp} {xs : List V} {ds : List D} (r : RepL K H xs ds) (lo hi : Option Int) : RepL K H (cutV xs lo hi) (cut ds lo hi) := by
  unfold cutV cut
  rw [r.length]
  exact (r.drop _).take _
structure O3 (K : Fg) where
  r : V → Option Int → Option Int → Hp → VK → Prop
  w : D → Option Int → Option Int → Om → (D → Om → Prop) → Prop
  ok : ∀ (z : Z) (x : V) (d : D) (lo hi : Option Int) (Q : VK) (Φ : D → Om → Prop), w d lo hi z.o Φ → z.Ok K → Rep K z.d x d → (∀ v z2 c, To K z z2 → Rep K z2.d v c → Φ c z2.o → Q v z2.h) → r x lo hi z.h Q
def bSl (o : O3 K) (a : BE K) (lo hi : BO K) : BE K where
  t := fun W => tSl o.r (a.t W) (lo.t W) (hi.t W)
  w := fun ρ ω Φ Ψ => a.w ρ ω (fun x ω1 => lo.w ρ ω1 (fun i ω2 => hi.w ρ ω2 (fun j ω3 => o.w x i j ω3 Φ) Ψ) Ψ) Ψ
  ok := fun W ρ z σ Q Φ Ψ h k r q qx => by
    refine a.ok W ρ z σ _ _ Ψ h k r (fun x z1 d t1 r1 h1 => ?_) qx
    refine lo.ok W ρ z1 σ _ _ Ψ h1 t1.ok (r.mono t1.ex) (fun i z2 t2 h2 => ?_) fun x cls d z2 t2 => qx x cls d z2 (t1.trans t2)
    refine hi.ok W ρ z2 σ _ _ Ψ h2 t2.ok (r.mono (t1.trans t2).ex) (fun j z3 t3 h3 => ?_) fun x cls d z3 t3 => qx x cls d z3 ((t1.trans t2).trans t3)
    exact o.ok z3 x d i j Q Φ h3 t3.ok (r1.mono (t2.trans t3).ex) fun v z4 c t4 => q v z4 c (((t1.trans t2).trans t3).trans t4)
theorem sl_or {X : Cx} {r r' : V → Option Int → Option Int → Hp → VK → Prop} (h : SlR X r) (h' : SlR X r') : SlR X (fun x lo hi H Q => r x lo hi H Q ∨ r' x lo hi H Q) := by
  intro pins s σ H x v vl vu lo hi sl Q I rx hs pl pu q
  rcases q with q | q
  · exact h pins s σ H x v vl vu lo hi sl Q I rx hs pl pu q
  · exact h' pins s σ H x v vl vu lo hi sl Q I rx hs pl pu q
def slW (own : Bool) (x : D) (lo hi : Option Int) (ω : Om) (Φ : D → Om → Prop) : Prop := match x with
  | .str s => s.length ≤ sizeLine ∧ Φ (.str (cut s lo hi)) ω
  | .tup ds => Φ (.tup (cut ds lo hi)) ω
  | .scr ns => Φ (.lst ((cut ns lo hi).map .int)) ω
  | x => ∃ ds, lstOf ω x = some ds ∧ if own = true then ∀ a, ω a = none → Φ (.ref a) (ω.set a (.lst (cut ds lo hi))) else Φ (.lst (cut ds lo hi)) ω
theorem cut_whole {α : Type} {xs : List α} {lo hi : Option Int} (h : HT.sIx xs.length 0 lo = 0 ∧ HT.sIx xs.length xs.length hi = xs.length) : cut xs lo hi = xs := by
  unfold cut
  rw [h.1, h.2]
  simp
theorem cut_map {α β : Type} (f : α → β) (xs : List α) (lo hi : Option Int) : cut (xs.map f) lo hi = (cut xs lo hi).map f := by
  unfold cut
  simp [List.map_drop, List.map_take]
def oSl (own : Bool) : O3 K where
  r := fun x lo hi H Q => rSlS x lo hi H Q ∨ (rSlA K x lo hi H Q ∨ rSlL K x lo hi H Q)
  w := slW own
  ok := fun z x d lo hi Q Φ h k r q => by
    unfold slW at h
    split at h
    · cases r
      refine .inl ⟨_, rfl, by rw [sOf_len]; exact h.1, q _ z _ k.to ?_ h.2⟩
      unfold cutS
      rw [sOf_len]
      simp only [List.toList_toArray]
      exact .str _
    · rename_i ds
      obtain ⟨a, xs, rfl, ha, rx⟩ := rep_tup r
      refine .inr (.inl ⟨a, xs, rfl, k.fz.sqt ha, fun c => ?_, fun c p hp => ?_⟩)
      · rw [rx.length] at c
        rw [cut_whole c] at h
        exact q _ z _ k.to (.tup ha rx) h
      · have t := k.add (o := .tup (cutV xs lo hi)) hp
        exact q _ _ _ t (.tup (SqT.of upd_same) ((cut_rep rx lo hi).mono t.ex)) h
    · rename_i ns
      obtain ⟨a, rfl, ha⟩ := rep_scr r
      refine .inr (.inr ⟨a, _, rfl, k.fz.sql ha, fun p hp => ?_⟩)
      have t := k.add (o := .lst (cutV (ns.map V.int) lo hi)) hp
      refine q _ _ _ t (.lst upd_same ?_) h
      have := cut_rep (K := K) (H := upd z.d p (HO.lst (cutV (List.map V.int ns) lo hi))) (RepL.of_ints ns) lo hi
      rw [cut_map] at this
      exact this
    · obtain ⟨ds, h1, h2⟩ := h
      obtain ⟨a, xs, rfl, ha, rx⟩ := lst_of k r h1
      refine .inr (.inr ⟨a, xs, rfl, SqL.of ha, fun p hp => ?_⟩)
      cases own with
      | true =>
        have t := k.lay (o := .lst (cutV xs lo hi)) (c := .lst (cut ds lo hi)) hp ⟨_, upd_same, cut_rep rx lo hi⟩
        exact q _ _ _ t (.ref p) (h2 p (k.free hp).2)
      | false =>
        have t := k.add (o := .lst (cutV xs lo hi)) hp
        exact q _ _ _ t (.lst upd_same ((cut_rep rx lo hi).mono t.ex)) h2
theorem sl_oSl {X : Cx} {b : Bool} : SlR X (oSl (K := X.K) b).r := sl_or sl_str (sl_or sl_tupA sl_list)

/-! ### in, not in -/
def flatD : D → Bool
  | .non => true
  | .bl _ => true
  | .int _ => true
  | .str _ => true
  | _ => false
def eqF : D → D → Bool
  | .non, .non => true
  | .bl a, .bl b => a == b
  | .bl a, .int b => (if a then 1 else 0) == b
  | .int a, .bl b => a == (if b then 1 else 0)
  | .int a, .int b => decide (a = b)
  | .str a, .str b => decide (a = b)
  | _, _ => false
theorem flat_rep {H : Hp} {v : V} {d : D} (r : Rep K H v d) (h : flatD d = true) : flatV v = true := by
  cases r <;> first | rfl | cases h
theorem eqF_rep {H : Hp} {v w : V} {d e : D} (r : Rep K H v d) (s : Rep K H w e) (h : flatD d = true) (g : flatD e = true) : eqV v w = eqF d e := by
  cases r <;> (first | cases h | skip) <;> cases s <;> (first | cases g | skip) <;> simp only [eqV, eqF] <;> (first | rfl | (rw [Bool.eq_iff_iff]; simp [sOf_inj]) | skip)
theorem any_rep {H : Hp} {v : V} {d : D} (r : Rep K H v d) (h : flatD d = true) : ∀ {xs : List V} {ds : List D}, RepL K H xs ds → ds.all flatD = true → xs.all flatV = true ∧ inV v xs = ds.any fun e => eqF e d
  | _, _, .nil, _ => ⟨rfl, rfl⟩
  | x :: xs, e :: ds, .cons s t, f => by
    rw [List.all_cons, Bool.and_eq_true] at f
    obtain ⟨h1, h2⟩ := any_rep r h t f.2
    refine ⟨by rw [List.all_cons, flat_rep s f.1, h1]; rfl, ?_⟩
    unfold inV at h2 ⊢
    rw [List.any_cons, List.any_cons, eqF_rep s r f.1 h, h2]
def inW (neg : Bool) (x y : D) (ω : Om) (Φ : D → Om → Prop) : Prop := match x, y with
  | .str s, .str t => ∃ c, s = [c] ∧ Φ (.bl (if neg then !decide (c ∈ t) else decide (c ∈ t))) ω
  | x, .tup ds => flatD x = true ∧ ds.all flatD = true ∧ Φ (.bl (if neg then !ds.any fun e => eqF e x else ds.any fun e => eqF e x)) ω
  | x, y => ∃ ds, lstOf ω y = some ds ∧ flatD x = true ∧ ds.all flatD = true ∧ Φ (.bl (if neg then !ds.any fun e => eqF e x else ds.any fun e => eqF e x)) ω
def oIn (neg : Bool) : O2 K where
  r := fun x y H Q => (∃ (c : Nat) (z : Str), x = .str ⟨#[c]⟩ ∧ y = .str z ∧ Q (.bl (if neg then !decide (c ∈ z.cps.toList) else decide (c ∈ z.cps.toList))) H) ∨ rIn K neg x y H Q
  w := inW neg
  ok := fun z x y d e Q Φ h k r1 r2 q => by
    unfold inW at h
    split at h
    · obtain ⟨c, rfl, h⟩ := h
      cases r1; cases r2
      exact .inl ⟨c, _, rfl, rfl, q _ z _ k.to (.bl _) (by simpa using h)⟩
    · obtain ⟨h1, h2, h3⟩ := h
      obtain ⟨a, xs, rfl, ha, rx⟩ := rep_tup r2
      obtain ⟨g1, g2⟩ := any_rep r1 h1 rx h2
      refine .inr ⟨a, xs, rfl, .inr (k.fz.sqt ha), flat_rep r1 h1, g1, ?_⟩
      rw [g2]
      exact q _ z _ k.to (.bl _) h3
    · obtain ⟨ds, h0, h1, h2, h3⟩ := h
      obtain ⟨a, xs, rfl, ha, rx⟩ := lst_of k r2 h0
      obtain ⟨g1, g2⟩ := any_rep r1 h1 rx h2
      refine .inr ⟨a, xs, rfl, .inl (SqL.of ha), flat_rep r1 h1, g1, ?_⟩
      rw [g2]
      exact q _ z _ k.to (.bl _) h3
theorem op_oIn {X : Cx} : OpR X (compareOp .In) (oIn (K := X.K) false).r := op_in_sign.or op_in_seq
theorem op_oNotIn {X : Cx} : OpR X (compareOp .NotIn) (oIn (K := X.K) true).r := op_notIn_sign.or op_notIn_seq

/-! ### argument lists, displays -/
def baN : BA K where
  t := fun _ => tNil
  w := fun _ ω Φ _ => Φ [] ω
  ok := fun W ρ z σ Q Φ Ψ h k r q _ => q [] z [] k.to .nil h
def baC (a : BE K) (b : BA K) : BA K where
  t := fun W => tCons (a.t W) (b.t W)
  w := fun ρ ω Φ Ψ => a.w ρ ω (fun x ω1 => b.w ρ ω1 (fun xs ω2 => Φ (x :: xs) ω2) Ψ) Ψ
  ok := fun W ρ z σ Q Φ Ψ h k r q qx => by
    refine a.ok W ρ z σ _ _ Ψ h k r (fun x z1 d t1 r1 h1 => ?_) qx
    refine b.ok W ρ z1 σ _ _ Ψ h1 t1.ok (r.mono t1.ex) (fun xs z2 ds t2 r2 h2 => ?_) fun x cls d z2 t2 => qx x cls d z2 (t1.trans t2)
    exact q _ z2 _ (t1.trans t2) (.cons (r1.mono t2.ex) r2) h2
def bTup (a : BA K) : BE K where
  t := fun W => tTup (a.t W)
  w := fun ρ ω Φ Ψ => a.w ρ ω (fun xs ω1 => xs.length ≤ sizeLine ∧ Φ (.tup xs) ω1) Ψ
  ok := fun W ρ z σ Q Φ Ψ h k r q qx => by
    refine a.ok W ρ z σ _ _ Ψ h k r (fun xs z1 ds t1 r1 h1 => ?_) qx
    refine ⟨by rw [r1.length]; exact h1.1, fun p hp => ?_⟩
    have t := t1.ok.add (o := .tup xs) hp
    exact q _ _ _ (t1.trans t) (.tup (SqT.of upd_same) (r1.mono t.ex)) h1.2
def bLst (own : Bool) (a : BA K) : BE K where
  t := fun W => tLst (a.t W)
  w := fun ρ ω Φ Ψ => a.w ρ ω (fun xs ω1 => xs.length ≤ sizeLine ∧ if own = true then ∀ a, ω1 a = none → Φ (.ref a) (ω1.set a (.lst xs)) else Φ (.lst xs) ω1) Ψ
  ok := fun W ρ z σ Q Φ Ψ h k r q qx => by
    refine a.ok W ρ z σ _ _ Ψ h k r (fun xs z1 ds t1 r1 h1 => ?_) qx
    refine ⟨by rw [r1.length]; exact h1.1, fun p hp => ?_⟩
    cases own with
    | true =>
      have t := t1.ok.lay (o := .lst xs) (c := .lst ds) hp ⟨_, upd_same, r1⟩
      exact q _ _ _ (t1.trans t) (.ref p) (h1.2 p (t1.ok.free hp).2)
    | false =>
      have t := t1.ok.add (o := .lst xs) hp
      exact q _ _ _ (t1.trans t) (.lst upd_same (r1.mono t.ex)) h1.2
/-- {}: its keys will be ints and texts -/
def bDnewK : BE K where
  t := fun _ => tDNewK
  w := fun _ ω Φ _ => ∀ a, ω a = none → Φ (.ref a) (ω.set a (.dk []))
  ok := fun W ρ z σ Q Φ Ψ h k r q qx => by
    intro p hp
    have t := k.lay (o := .dK []) (c := .dk []) hp ⟨_, upd_same, .nil⟩
    exact q _ _ _ t (.ref p) (h p (k.free hp).2)
/-- .. tuples -/
def bDnewT : BE K where
  t := fun _ => tDNewT
  w := fun _ ω Φ _ => ∀ a, ω a = none → Φ (.ref a) (ω.set a (.dt []))
  ok := fun W ρ z σ Q Φ Ψ h k r q qx => by
    intro p hp
    have t := k.lay (o := .dT []) (c := .dt []) hp ⟨_, upd_same, .nil⟩
    exact q _ _ _ t (.ref p) (h p (k.free hp).2)
/-- what may change, from now on data -/
def bFrz (e : BE K) : BE K where
  t := e.t
  w := fun ρ ω Φ Ψ => e.w ρ ω (fun d ω1 => match d with
    | .ref a => (match ω1 a with
      | some (.lst ds) => Φ (.lst ds) (ω1.del a)
      | _ => Φ (.ref a) ω1)
    | d => Φ d ω1) Ψ
  ok := fun W ρ z σ Q Φ Ψ h k r q qx => by
    refine e.ok W ρ z σ _ _ Ψ h k r (fun v z1 d t1 r1 h1 => ?_) qx
    split at h1
    · rename_i a
      split at h1
      · rename_i ds hc
        obtain ⟨_, xs, c1, c2⟩ := t1.ok.cell a _ hc
        have t := t1.ok.freeze hc c1
        cases r1
        exact q _ ⟨upd z1.d a (.lst xs), z1.h, z1.o.del a, z1.t⟩ _ (t1.trans t) (.lst upd_same (c2.mono t.ex)) h1
      · exact q v z1 _ t1 r1 h1
    · exact q v z1 _ t1 r1 h1

/-! ### tests -/
def truW (x : D) (ω : Om) (Φ : Bool → Om → Prop) : Prop := match x with
  | .non => Φ false ω
  | .bl b => Φ b ω
  | .int i => Φ (i != 0) ω
  | .str s => s.length ≤ sizeLine ∧ Φ (!s.isEmpty) ω
  | .tup ds => Φ (!ds.isEmpty) ω
  | .scr ns => Φ (!ns.isEmpty) ω
  | .lst ds => Φ (!ds.isEmpty) ω
  | .ref a => match ω a with
    | some (.lst ds) => Φ (!ds.isEmpty) ω
    | some (.dk kvs) => Φ (!kvs.isEmpty) ω
    | _ => False
  | .exn .. => False
  | .clo .. => False
theorem tru_rep {z : Z} (k : z.Ok K) {v : V} {d : D} {Φ : Bool → Om → Prop} (r : Rep K z.d v d) (h : truW d z.o Φ) : ∃ b, TruV K v z.h b ∧ Φ b z.o := by
  cases r with
  | non => exact ⟨_, rfl, h⟩
  | bl b => exact ⟨_, rfl, h⟩
  | int i => exact ⟨_, rfl, h⟩
  | str s =>
    refine ⟨_, ⟨by rw [sOf_len]; exact h.1, rfl⟩, ?_⟩
    rw [sOf_len]
    have e : ((s.length : Int) != 0) = !s.isEmpty := by cases s <;> simp; omega
    rw [e]
    exact h.2
  | tup h1 h2 => exact ⟨_, .inr (.inl ⟨_, k.fz.sqt h1, rfl⟩), by rw [h2.nil_iff]; exact h⟩
  | lst h1 h2 => exact ⟨_, .inl ⟨_, SqL.of (k.fz _ _ h1), rfl⟩, by rw [h2.nil_iff]; exact h⟩
  | exn0 => exact h.elim
  | exn1 => exact h.elim
  | clo => exact h.elim
  | @scr a ns h1 =>
    refine ⟨_, .inl ⟨_, k.fz.sql h1, rfl⟩, ?_⟩
    have e : (List.map V.int ns).isEmpty = ns.isEmpty := by cases ns <;> rfl
    rw [e]; exact h
  | ref a =>
    unfold truW at h
    simp only at h
    split at h
    · rename_i ds hc
      obtain ⟨_, xs, h1, h2⟩ := k.cell a _ hc
      exact ⟨_, .inl ⟨_, SqL.of h1, rfl⟩, by rw [h2.nil_iff]; exact h⟩
    · rename_i kvs hc
      obtain ⟨_, xs, h1, h2⟩ := k.cell a _ hc
      refine ⟨_, .inr (.inr ⟨_, h1, rfl⟩), ?_⟩
      have e : xs.isEmpty = kvs.isEmpty := by cases h2 <;> rfl
      rw [e]; exact h
    · exact h.elim
/-- the truth of a value -/
def btTru (a : BE K) : BT K where
  t := fun W => fun σ H Q => a.t W σ H fun x H' => ∃ k, TruV K x H' k ∧ Q k H'
  w := fun ρ ω Φ Ψ => a.w ρ ω (fun x ω1 => truW x ω1 Φ) Ψ
  ok := fun W ρ z σ Q Φ Ψ h k r q qx => by
    refine a.ok W ρ z σ _ _ Ψ h k r (fun x z1 d t1 r1 h1 => ?_) qx
    obtain ⟨b, e1, e2⟩ := tru_rep t1.ok r1 h1
    exact ⟨b, e1, q b z1 t1 e2⟩
/-- a value that is a bool -/
def btB (a : BE K) : BT K where
  t := fun W => tB (a.t W)
  w := fun ρ ω Φ Ψ => a.w ρ ω (fun x ω1 => match x with
    | .bl b => Φ b ω1
    | _ => False) Ψ
  ok := fun W ρ z σ Q Φ Ψ h k r q qx => by
    refine a.ok W ρ z σ _ _ Ψ h k r (fun x z1 d t1 r1 h1 => ?_) qx
    split at h1
    · cases r1
      exact ⟨_, rfl, q _ z1 t1 h1⟩
    · exact h1.elim
/-- a comparison -/
def btC (a : BE K) : BT K where
  t := fun W => tTest (a.t W)
  w := fun ρ ω Φ Ψ => a.w ρ ω (fun x ω1 => match x with
    | .bl b => Φ b ω1
    | _ => False) Ψ
  ok := fun W ρ z σ Q Φ Ψ h k r q qx => by
    refine a.ok W ρ z σ _ _ Ψ h k r (fun x z1 d t1 r1 h1 => ?_) qx
    split at h1
    · cases r1
      exact ⟨_, rfl, q _ z1 t1 h1⟩
    · exact h1.elim
def btAnd (a b : BT K) : BT K where
  t := fun W => tAnd (a.t W) (b.t W)
  w := fun ρ ω Φ Ψ => a.w ρ ω (fun c ω1 => if c = true then b.w ρ ω1 Φ Ψ else Φ false ω1) Ψ
  ok := fun W ρ z σ Q Φ Ψ h k r q qx => by
    refine a.ok W ρ z σ _ _ Ψ h k r (fun c z1 t1 h1 => ?_) qx
    cases c with
    | true => exact iteT (b.ok W ρ z1 σ _ _ Ψ h1 t1.ok (r.mono t1.ex) (fun c z2 t2 => q c z2 (t1.trans t2)) fun x cls d z2 t2 => qx x cls d z2 (t1.trans t2))
    | false => exact iteF (q false z1 t1 h1)
def btOr (a b : BT K) : BT K where
  t := fun W => tOr (a.t W) (b.t W)
  w := fun ρ ω Φ Ψ => a.w ρ ω (fun c ω1 => if c = true then Φ true ω1 else b.w ρ ω1 Φ Ψ) Ψ
  ok := fun W ρ z σ Q Φ Ψ h k r q qx => by
    refine a.ok W ρ z σ _ _ Ψ h k r (fun c z1 t1 h1 => ?_) qx
    cases c with
    | false => exact iteF (b.ok W ρ z1 σ _ _ Ψ h1 t1.ok (r.mono t1.ex) (fun c z2 t2 => q c z2 (t1.trans t2)) fun x cls d z2 t2 => qx x cls d z2 (t1.trans t2))
    | true => exact iteT (q true z1 t1 h1)
def btNot (a : BT K) : BT K where
  t := fun W => tNot (a.t W)
  w := fun ρ ω Φ Ψ => a.w ρ ω (fun c ω1 => Φ (!c) ω1) Ψ
  ok := fun W ρ z σ Q Φ Ψ h k r q qx => a.ok W ρ z σ _ _ Ψ h k r (fun c z1 t1 h1 => q _ z1 t1 h1) qx
def btYes : BT K where
  t := fun _ => tYes
  w := fun _ ω Φ _ => Φ true ω
  ok := fun W ρ z σ Q Φ Ψ h k r q _ => q true z k.to h

/-! ### and, or, not as values; a if t else b; a < b < c -/
def bAndT (a b : BE K) : BE K where
  t := fun W => tAndT K (a.t W) (b.t W)
  w := fun ρ ω Φ Ψ => a.w ρ ω (fun x ω1 => truW x ω1 fun c ω2 => if c = true then b.w ρ ω2 Φ Ψ else Φ x ω2) Ψ
  ok := fun W ρ z σ Q Φ Ψ h k r q qx => by
    refine a.ok W ρ z σ _ _ Ψ h k r (fun x z1 d t1 r1 h1 => ?_) qx
    obtain ⟨c, e1, e2⟩ := tru_rep t1.ok r1 h1
    refine ⟨c, e1, ?_⟩
    cases c with
    | true => exact iteT (b.ok W ρ z1 σ _ _ Ψ e2 t1.ok (r.mono t1.ex) (fun v z2 d t2 => q v z2 d (t1.trans t2)) fun x cls d z2 t2 => qx x cls d z2 (t1.trans t2))
    | false => exact iteF (q x z1 d t1 r1 e2)
def bOrT (a b : BE K) : BE K where
  t := fun W => tOrT K (a.t W) (b.t W)
  w := fun ρ ω Φ Ψ => a.w ρ ω (fun x ω1 => truW x ω1 fun c ω2 => if c = true then Φ x ω2 else b.w ρ ω2 Φ Ψ) Ψ
  ok := fun W ρ z σ Q Φ Ψ h k r q qx => by
    refine a.ok W ρ z σ _ _ Ψ h k r (fun x z1 d t1 r1 h1 => ?_) qx
    obtain ⟨c, e1, e2⟩ := tru_rep t1.ok r1 h1
    refine ⟨c, e1, ?_⟩
    cases c with
    | false => exact iteF (b.ok W ρ z1 σ _ _ Ψ e2 t1.ok (r.mono t1.ex) (fun v z2 d t2 => q v z2 d (t1.trans t2)) fun x cls d z2 t2 => qx x cls d z2 (t1.trans t2))
    | true => exact iteT (q x z1 d t1 r1 e2)
def bNotT (a : BE K) : BE K where
  t := fun W => tNotT K (a.t W)
  w := fun ρ ω Φ Ψ => a.w ρ ω (fun x ω1 => truW x ω1 fun c ω2 => Φ (.bl (!c)) ω2) Ψ
  ok := fun W ρ z σ Q Φ Ψ h k r q qx => by
    refine a.ok W ρ z σ _ _ Ψ h k r (fun x z1 d t1 r1 h1 => ?_) qx
    obtain ⟨c, e1, e2⟩ := tru_rep t1.ok r1 h1
    exact ⟨c, e1, q _ z1 _ t1 (.bl _) e2⟩
def bIf (c : BT K) (a b : BE K) : BE K where
  t := fun W => tIf (c.t W) (a.t W) (b.t W)
  w := fun ρ ω Φ Ψ => c.w ρ ω (fun x ω1 => if x = true then a.w ρ ω1 Φ Ψ else b.w ρ ω1 Φ Ψ) Ψ
  ok := fun W ρ z σ Q Φ Ψ h k r q qx => by
    refine c.ok W ρ z σ _ _ Ψ h k r (fun x z1 t1 h1 => ?_) qx
    cases x with
    | true => exact iteT (a.ok W ρ z1 σ _ _ Ψ h1 t1.ok (r.mono t1.ex) (fun v z2 d t2 => q v z2 d (t1.trans t2)) fun x cls d z2 t2 => qx x cls d z2 (t1.trans t2))
    | false => exact iteF (b.ok W ρ z1 σ _ _ Ψ h1 t1.ok (r.mono t1.ex) (fun v z2 d t2 => q v z2 d (t1.trans t2)) fun x cls d z2 t2 => qx x cls d z2 (t1.trans t2))
def blW (d : D) (F : Bool → Prop) : Prop := match d with
  | .bl b => F b
  | _ => False
theorem blW_rep {H : Hp} {v : V} {d : D} {F : Bool → Prop} (h : blW d F) (r : Rep K H v d) : ∃ b, v = .bl b ∧ F b := by
  cases r <;> first | exact ⟨_, rfl, h⟩ | exact h.elim
def bChain (o p : O2 K) (a b c : BE K) : BE K where
  t := fun W => tChain o.r p.r (a.t W) (b.t W) (c.t W)
  w := fun ρ ω Φ Ψ => a.w ρ ω (fun x ω1 => b.w ρ ω1 (fun y ω2 => o.w x y ω2 fun r ω3 => blW r fun k => if k = true then c.w ρ ω3 (fun z ω4 => p.w y z ω4 Φ) Ψ else Φ (.bl false) ω3) Ψ) Ψ
  ok := fun W ρ z σ Q Φ Ψ h k r q qx => by
    refine a.ok W ρ z σ _ _ Ψ h k r (fun x z1 d t1 r1 h1 => ?_) qx
    refine b.ok W ρ z1 σ _ _ Ψ h1 t1.ok (r.mono t1.ex) (fun y z2 e t2 r2 h2 => ?_) fun x cls d z2 t2 => qx x cls d z2 (t1.trans t2)
    refine o.ok z2 x y d e _ _ h2 t2.ok (r1.mono t2.ex) r2 fun v z3 g t3 r3 h3 => ?_
    obtain ⟨kb, rfl, h3⟩ := blW_rep h3 r3
    refine ⟨kb, rfl, ?_⟩
    cases kb with
    | true =>
      refine iteT ?_
      have t13 := (t1.trans t2).trans t3
      refine c.ok W ρ z3 σ _ _ Ψ h3 t3.ok (r.mono t13.ex) (fun y' z4 e' t4 r4 h4 => ?_) fun x cls d z2 t2 => qx x cls d z2 (t13.trans t2)
      exact p.ok z4 y y' e e' Q Φ h4 t4.ok (r2.mono (t3.trans t4).ex) r4 fun v z5 g t5 => q v z5 g ((t13.trans t4).trans t5)
    | false => exact iteF (q _ z3 _ ((t1.trans t2).trans t3) (.bl _) h3)

/-! ### calls of built-ins -/
structure CB (K : Fg) where
  r : List V → Hp → VK → Prop
  w : List D → Om → (D → Om → Prop) → Prop
  ok : ∀ (z : Z) (xs : List V) (ds : List D) (Q : VK) (Φ : D → Om → Prop), w ds z.o Φ → z.Ok K → RepL K z.d xs ds → (∀ v z2 c, To K z z2 → Rep K z2.d v c → Φ c z2.o → Q v z2.h) → r xs z.h Q
def bCB (c : CB K) (a : BA K) : BE K where
  t := fun W => tCB c.r (a.t W)
  w := fun ρ ω Φ Ψ => a.w ρ ω (fun xs ω1 => c.w xs ω1 Φ) Ψ
  ok := fun W ρ z σ Q Φ Ψ h k r q qx => by
    refine a.ok W ρ z σ _ _ Ψ h k r (fun xs z1 ds t1 r1 h1 => ?_) qx
    exact c.ok z1 xs ds Q Φ h1 t1.ok r1 fun v z2 d t2 => q v z2 d (t1.trans t2)
theorem rep1 {H : Hp} {xs : List V} {d : D} (r : RepL K H xs [d]) : ∃ x, xs = [x] ∧ Rep K H x d := by
  cases r with
  | cons h t => cases t; exact ⟨_, rfl, h⟩
theorem rep2 {H : Hp} {xs : List V} {d e : D} (r : RepL K H xs [d, e]) : ∃ x y, xs = [x, y] ∧ Rep K H x d ∧ Rep K H y e := by
  cases r with
  | cons h t =>
    obtain ⟨y, rfl, h2⟩ := rep1 t
    exact ⟨_, _, rfl, h, h2⟩
theorem rep3 {H : Hp} {xs : List V} {d e f : D} (r : RepL K H xs [d, e, f]) : ∃ x y u, xs = [x, y, u] ∧ Rep K H x d ∧ Rep K H y e ∧ Rep K H u f := by
  cases r with
  | cons h t =>
    obtain ⟨y, u, rfl, h2, h3⟩ := rep2 t
    exact ⟨_, _, _, rfl, h, h2, h3⟩
theorem CallR.or {X : Cx} {f : Value} {r r' : List V → Hp → VK → Prop} (h : CallR X f r) (h' : CallR X f r') : CallR X f (fun xs H Q => r xs H Q ∨ r' xs H Q) := by
  intro pins s σ H xs us Q I rx q
  rcases q with q | q
  · exact h pins s σ H xs us Q I rx q
  · exact h' pins s σ H xs us Q I rx q
/-- len -/
def lenW (ds : List D) (ω : Om) (Φ : D → Om → Prop) : Prop := match ds with
  | [.str s] => s.length ≤ sizeLine ∧ Φ (.int s.length) ω
  | [.tup xs] => Φ (.int xs.length) ω
  | [.scr ns] => Φ (.int ns.length) ω
  | [.lst xs] => Φ (.int xs.length) ω
  | [.ref a] => ∃ xs, ω a = some (.lst xs) ∧ Φ (.int xs.length) ω
  | _ => False
def cLen : CB K where
  r := fun xs H Q => ∃ x n, xs = [x] ∧ LenV K x H n ∧ Q (.int n) H
  w := lenW
  ok := fun z xs ds Q Φ h k r q => by
    unfold lenW at h
    split at h
    · obtain ⟨x, rfl, r1⟩ := rep1 r
      cases r1
      refine ⟨_, _, rfl, ⟨by rw [sOf_len]; exact h.1, rfl⟩, ?_⟩
      rw [sOf_len]
      exact q _ z _ k.to (.int _) h.2
    · obtain ⟨x, rfl, r1⟩ := rep1 r
      obtain ⟨a, ys, rfl, ha, ry⟩ := rep_tup r1
      refine ⟨_, _, rfl, .inr ⟨ys, k.fz.sqt ha, rfl⟩, ?_⟩
      rw [ry.length]
      exact q _ z _ k.to (.int _) h
    · obtain ⟨x, rfl, r1⟩ := rep1 r
      obtain ⟨a, rfl, ha⟩ := rep_scr r1
      refine ⟨_, _, rfl, .inl ⟨_, k.fz.sql ha, rfl⟩, ?_⟩
      rw [List.length_map]
      exact q _ z _ k.to (.int _) h
    · obtain ⟨x, rfl, r1⟩ := rep1 r
      obtain ⟨a, ys, rfl, ha, ry⟩ := rep_lst r1
      refine ⟨_, _, rfl, .inl ⟨ys, SqL.of (k.fz _ _ ha), rfl⟩, ?_⟩
      rw [ry.length]
      exact q _ z _ k.to (.int _) h
    · obtain ⟨x, rfl, r1⟩ := rep1 r
      obtain ⟨ds, hc, h⟩ := h
      cases r1
      obtain ⟨_, ys, h1, h2⟩ := k.cell _ _ hc
      refine ⟨_, _, rfl, .inl ⟨ys, SqL.of h1, rfl⟩, ?_⟩
      rw [h2.length]
      exact q _ z _ k.to (.int _) h
    · exact h.elim
theorem call_cLen {X : Cx} : CallR X (.builtin "len") (cLen (K := X.K)).r := call_len
/-- all, any of a list of truths -/
def blsOf : List D → Option (List Bool)
  | [] => some []
  | .bl b :: r => (blsOf r).map (b :: ·)
  | _ => none
theorem blsOf_map : ∀ bs : List Bool, blsOf (bs.map .bl) = some bs
  | [] => rfl
  | b :: r => by show (blsOf (r.map .bl)).map (b :: ·) = _; rw [blsOf_map r]; rfl
theorem blsOf_eq : ∀ {ds : List D} {bs : List Bool}, blsOf ds = some bs → ds = bs.map .bl
  | [], bs, h => by simp [blsOf] at h; subst h; rfl
  | .bl b :: r, bs, h => by
    simp only [blsOf] at h
    cases e : blsOf r with
    | none => rw [e] at h; cases h
    | some cs => rw [e] at h; cases h; rw [blsOf_eq e]; rfl
  | .non :: _, _, h => by cases h
  | .int _ :: _, _, h => by cases h
  | .str _ :: _, _, h => by cases h
  | .tup _ :: _, _, h => by cases h
  | .lst _ :: _, _, h => by cases h
  | .ref _ :: _, _, h => by cases h
  | .scr _ :: _, _, h => by cases h
  | .exn .. :: _, _, h => by cases h
  | .clo .. :: _, _, h => by cases h
def cAll : CB K where
  r := rAll K
  w := fun ds ω Φ => ∃ d xs bs, ds = [d] ∧ lstOf ω d = some xs ∧ blsOf xs = some bs ∧ Φ (.bl (bs.all id)) ω
  ok := fun z xs ds Q Φ h k r q => by
    obtain ⟨d, ys, bs, rfl, h1, h2, h3⟩ := h
    obtain ⟨x, rfl, r1⟩ := rep1 r
    obtain ⟨a, zs, rfl, ha, rz⟩ := lst_of k r1 h1
    rw [blsOf_eq h2] at rz
    rw [RepL.bls rz] at ha
    exact ⟨a, bs, rfl, SqL.of ha, q _ z _ k.to (.bl _) h3⟩
/-- max, min of two numbers -/
def cMax2 : CB K where
  r := fun xs H Q => ∃ i j, xs = [.int i, .int j] ∧ Q (.int (if j > i then j else i)) H
  w := fun ds ω Φ => match ds with
    | [.int i, .int j] => Φ (.int (max i j)) ω
    | _ => False
  ok := fun z xs ds Q Φ h k r q => by
    split at h
    · obtain ⟨x, y, rfl, r1, r2⟩ := rep2 r
      cases r1; cases r2
      refine ⟨_, _, rfl, ?_⟩
      rename_i i j
      have e : (if j > i then j else i) = max i j := by
        rw [Int.max_def]
        by_cases c : j > i
        · rw [if_pos c, if_pos (by omega)]
        · rw [if_neg c]
          by_cases d : i ≤ j
          · rw [if_pos d]; omega
          · rw [if_neg d]
      rw [e]
      exact q _ z _ k.to (.int _) h
    · exact h.elim
def cMin2 : CB K where
  r := fun xs H Q => ∃ i j, xs = [.int i, .int j] ∧ Q (.int (if j < i then j else i)) H
  w := fun ds ω Φ => match ds with
    | [.int i, .int j] => Φ (.int (min i j)) ω
    | _ => False
  ok := fun z xs ds Q Φ h k r q => by
    split at h
    · obtain ⟨x, y, rfl, r1, r2⟩ := rep2 r
      cases r1; cases r2
      refine ⟨_, _, rfl, ?_⟩
      rename_i i j
      have e : (if j < i then j else i) = min i j := by
        rw [Int.min_def]
        by_cases c : j < i
        · rw [if_pos c, if_neg (by omega)]
        · rw [if_neg c, if_pos (by omega)]
      rw [e]
      exact q _ z _ k.to (.int _) h
    · exact h.elim
/-- isinstance of a built-in type -/
def tyD (ω : Om) : D → Option String
  | .non => some "NoneType"
  | .bl _ => some "bool"
  | .int _ => some "int"
  | .str _ => some "str"
  | .tup _ => some "tuple"
  | .lst _ => some "list"
  | .scr _ => some "list"
  | .exn .. => none
  | .clo .. => none
  | .ref a => match ω a with
    | some (.lst _) => some "list"
    | some (.dk _) => some "dict"
    | some (.dt _) => some "dict"
    | _ => none
theorem tyX_rep {z : Z} (k : z.Ok K) {v : V} {d : D} {T : String} (r : Rep K z.d v d) (h : tyD z.o d = some T) : TyX K z.h v (.type T) := by
  cases r with
  | non => cases h; exact .base .non
  | bl b => cases h; exact .base (.bl _)
  | int i => cases h; exact .base (.int _)
  | str s => cases h; exact .base (.str _)
  | tup h1 _ =>
    cases h
    rcases h1 with (h1 | ⟨o, h1⟩) | ⟨o, its, n, e1, e2, _⟩
    · exact .base (.tup (k.fz _ _ h1))
    · exact .fTuple (k.fz _ _ h1)
    · exact .kTuple e1 e2
  | lst h1 _ => cases h; exact .base (.lst (k.fz _ _ h1))
  | exn0 => cases h
  | exn1 => cases h
  | clo => cases h
  | scr h1 =>
    cases h
    rcases h1 with (h1 | ⟨o, h1⟩) | ⟨o, its, n, e1, e2, _⟩
    · exact .base (.lst (k.fz _ _ h1))
    · exact .base (.frz (k.fz _ _ h1))
    · exact .kList e1 e2
  | ref a =>
    unfold tyD at h
    simp only at h
    split at h
    · rename_i ds hc
      cases h
      obtain ⟨_, xs, h1, _⟩ := k.cell a _ hc
      exact .base (.lst h1)
    · rename_i ds hc
      cases h
      obtain ⟨_, xs, h1, _⟩ := k.cell a _ hc
      exact .base (.dK h1)
    · rename_i ds hc
      cases h
      obtain ⟨_, xs, h1, _⟩ := k.cell a _ hc
      exact .base (.dT h1)
    · cases h
def isT (T U : String) : Bool := T == U || (T == "bool" && U == "int")
theorem kit_all {T U : String} (hT : T = "NoneType" ∨ T = "bool" ∨ T = "int" ∨ T = "str" ∨ T = "tuple" ∨ T = "list" ∨ T = "dict") (hU : U = "bool" ∨ U = "int" ∨ U = "str" ∨ U = "tuple" ∨ U = "list" ∨ U = "dict") : kitB T U = some (isT T U) := by
  rcases hT with rfl | rfl | rfl | rfl | rfl | rfl | rfl <;> rcases hU with rfl | rfl | rfl | rfl | rfl | rfl <;> decide +kernel
theorem tyD_one {ω : Om} {d : D} {T : String} (h : tyD ω d = some T) : T = "NoneType" ∨ T = "bool" ∨ T = "int" ∨ T = "str" ∨ T = "tuple" ∨ T = "list" ∨ T = "dict" := by
  cases d <;> simp [tyD] at h <;> (try (split at h)) <;> simp_all
  all_goals (subst h; simp)
def isW1 (U : String) (x : D) (ω : Om) (Φ : D → Om → Prop) : Prop := match tyD ω x with
  | some T => Φ (.bl (isT T U)) ω
  | none => False
/-- isinstance(a, U) -/
def bIsi (U : String) (hU : U = "bool" ∨ U = "int" ∨ U = "str" ∨ U = "tuple" ∨ U = "list" ∨ U = "dict") (a : BE K) : BE K where
  t := fun W => tCB (rIsi K) (tCons (a.t W) (tCons (tC (.ty U)) tNil))
  w := fun ρ ω Φ Ψ => a.w ρ ω (fun x ω1 => isW1 U x ω1 Φ) Ψ
  ok := fun W ρ z σ Q Φ Ψ h k r q qx => by
    refine a.ok W ρ z σ _ _ Ψ h k r (fun x z1 d t1 r1 h1 => ?_) qx
    unfold isW1 at h1
    split at h1
    · rename_i T hT
      exact ⟨x, .ty U, .type T, .type U, _, rfl, .ty U, tyX_rep t1.ok r1 hT, kit_ty (kit_all (tyD_one hT) hU), q _ z1 _ t1 (.bl _) h1⟩
    · exact h1.elim
end
end T

/-! Statements, targets, loops, comprehensions, defs and their calls. -/
namespace T
open PySem L2
section
variable {K : Fg}

/-! ### targets -/
def bgN (i : Nat) : BG K where
  t := gName i
  w := fun d ρ ω Φ => Φ (ρ.set i (some d)) ω
  ok := fun d v ρ z σ Q Φ h k r hv q => q _ _ z k.to (r.set i hv) h
structure BGs (K : Fg) where
  t : TGs
  w : List D → En → Om → (En → Om → Prop) → Prop
  ok : ∀ (ds : List D) (vs : List V) (ρ : En) (z : Z) (σ : St) (Q : St → Hp → Prop) (Φ : En → Om → Prop), w ds ρ z.o Φ → z.Ok K → RepE K z.d σ ρ → RepL K z.d vs ds →
    (∀ σ2 ρ2 z2, To K z z2 → RepE K z2.d σ2 ρ2 → Φ ρ2 z2.o → Q σ2 z2.h) → t vs σ z.h Q
def bgsN : BGs K where
  t := gNil
  w := fun ds ρ ω Φ => match ds with
    | [] => Φ ρ ω
    | _ => False
  ok := fun ds vs ρ z σ Q Φ h k r hv q => by
    split at h
    · cases hv
      exact ⟨rfl, q _ _ z k.to r h⟩
    · exact h.elim
def bgsC (g : BG K) (gs : BGs K) : BGs K where
  t := gCons g.t gs.t
  w := fun ds ρ ω Φ => match ds with
    | d :: ds => g.w d ρ ω fun ρ1 ω1 => gs.w ds ρ1 ω1 Φ
    | [] => False
  ok := fun ds vs ρ z σ Q Φ h k r hv q => by
    split at h
    · cases hv with
      | cons h1 h2 =>
      refine ⟨_, _, rfl, ?_⟩
      refine g.ok _ _ ρ z σ _ _ h k r h1 fun σ1 ρ1 z1 t1 r1 q1 => ?_
      exact gs.ok _ _ ρ1 z1 σ1 Q Φ q1 t1.ok r1 (h2.mono t1.ex) fun σ2 ρ2 z2 t2 => q σ2 ρ2 z2 (t1.trans t2)
    · exact h.elim
/-- a, b = a tuple -/
def bgT (n : Nat) (gs : BGs K) : BG K where
  t := gTup K n gs.t
  w := fun d ρ ω Φ => match d with
    | .tup ds => ds.length = n ∧ gs.w ds ρ ω Φ
    | _ => False
  ok := fun d v ρ z σ Q Φ h k r hv q => by
    split at h
    · obtain ⟨a, xs, rfl, h1, h2⟩ := rep_tup hv
      refine ⟨a, xs, rfl, k.fz.sqt h1, by rw [h2.length]; exact h.1, ?_⟩
      exact gs.ok _ _ ρ z σ Q Φ h.2 k r h2 q
    · exact h.elim

/-! ### statements -/
def bsNext : BS K where
  t := fun _ => tNext
  w := fun ρ ω k => k.nx ρ ω
  ok := fun W ρ z σ D' k h o r hk => hk.nx σ ρ z o.to r h
def bsSeq (a b : BS K) : BS K where
  t := fun W => tSeq (a.t W) (b.t W)
  w := fun ρ ω k => a.w ρ ω { k with nx := fun ρ1 ω1 => b.w ρ1 ω1 k }
  ok := fun W ρ z σ D' k h o r hk => a.ok W ρ z σ { D' with nx := b.t W D' } { k with nx := fun ρ1 ω1 => b.w ρ1 ω1 k } h o r
    ⟨fun σ2 ρ2 z2 t r2 h2 => b.ok W ρ2 z2 σ2 D' k h2 t.ok r2 (hk.to t), hk.rt, hk.bk, hk.ct, hk.xc⟩
theorem KOk.qx {W : WX} {z : Z} {k : KD} {D' : Ends} {σ : St} {ρ : En} (hk : KOk K W z k D') (r : RepE K z.d σ ρ) : ∀ x cls d z2, To K z z2 → RepX K z2 cls d x → k.xc x ρ z2.o → W cls d σ z2.h :=
  fun x cls d z2 t hx h => hk.xc x cls d σ ρ z2 t (r.mono t.ex) hx h
def bsAsg (e : BE K) (g : BG K) : BS K where
  t := fun W => tAsg (e.t W) g.t
  w := fun ρ ω k => e.w ρ ω (fun d ω1 => g.w d ρ ω1 k.nx) fun x ω1 => k.xc x ρ ω1
  ok := fun W ρ z σ D' k h o r hk => by
    refine e.ok W ρ z σ _ _ _ h o r (fun v z1 d t1 r1 h1 => ?_) (hk.qx r)
    exact g.ok d v ρ z1 σ D'.nx k.nx h1 t1.ok (r.mono t1.ex) r1 fun σ2 ρ2 z2 t2 => hk.nx σ2 ρ2 z2 (t1.trans t2)
def bsDrop (e : BE K) : BS K where
  t := fun W => tDrop (e.t W)
  w := fun ρ ω k => e.w ρ ω (fun _ ω1 => k.nx ρ ω1) fun x ω1 => k.xc x ρ ω1
  ok := fun W ρ z σ D' k h o r hk => by
    refine e.ok W ρ z σ _ _ _ h o r (fun v z1 d t1 r1 h1 => ?_) (hk.qx r)
    exact hk.nx σ ρ z1 t1 (r.mono t1.ex) h1
def bsRet (e : BE K) : BS K where
  t := fun W => tRet (e.t W)
  w := fun ρ ω k => e.w ρ ω k.rt fun x ω1 => k.xc x ρ ω1
  ok := fun W ρ z σ D' k h o r hk => e.ok W ρ z σ _ _ _ h o r (fun v z1 d t1 r1 h1 => hk.rt v d z1 t1 r1 h1) (hk.qx r)
def bsRetN : BS K where
  t := fun _ => tRetN
  w := fun ρ ω k => k.rt .non ω
  ok := fun W ρ z σ D' k h o r hk => hk.rt _ _ z o.to .non h
def bsIf (c : BT K) (a b : BS K) : BS K where
  t := fun W => tIfS (c.t W) (a.t W) (b.t W)
  w := fun ρ ω k => c.w ρ ω (fun x ω1 => if x = true then a.w ρ ω1 k else b.w ρ ω1 k) fun x ω1 => k.xc x ρ ω1
  ok := fun W ρ z σ D' k h o r hk => by
    refine c.ok W ρ z σ _ _ _ h o r (fun x z1 t1 h1 => ?_) (hk.qx r)
    cases x with
    | true => exact iteT (a.ok W ρ z1 σ D' k h1 t1.ok (r.mono t1.ex) (hk.to t1))
    | false => exact iteF (b.ok W ρ z1 σ D' k h1 t1.ok (r.mono t1.ex) (hk.to t1))
def bsBreak : BS K where
  t := fun _ => tBreak
  w := fun ρ ω k => k.bk ρ ω
  ok := fun W ρ z σ D' k h o r hk => hk.bk σ ρ z o.to r h
def bsCont : BS K where
  t := fun _ => tCont
  w := fun ρ ω k => k.ct ρ ω
  ok := fun W ρ z σ D' k h o r hk => hk.ct σ ρ z o.to r h
/-- a name op= e -/
def bsAug (i : Nat) (e : BE K) (o : O2 K) : BS K where
  t := fun W => tAug i (e.t W) o.r
  w := fun ρ ω k => match ρ[i]? with
    | some (some d) => e.w ρ ω (fun y ω1 => o.w d y ω1 fun v ω2 => k.nx (ρ.set i (some v)) ω2) fun x ω1 => k.xc x ρ ω1
    | _ => False
  ok := fun W ρ z σ D' k h ok r hk => by
    split at h
    · rename_i d hd
      obtain ⟨v, h1, h2⟩ := r.at_ i d hd
      refine ⟨v, h1, ?_⟩
      refine e.ok W ρ z σ _ _ _ h ok r (fun y z1 e' t1 r1 h3 => ?_) (hk.qx r)
      exact o.ok z1 v y d e' _ _ h3 t1.ok (h2.mono t1.ex) r1 fun u z2 c t2 r2 h4 => hk.nx _ _ z2 (t1.trans t2) ((r.mono (t1.trans t2).ex).set i r2) h4
    · exact h.elim
/-- while: W, a word that falls -/
def bsWhile (c : BT K) (b : BS K) : BS K where
  t := fun W => tWhile (c.t W) (b.t W)
  w := fun ρ ω k => ∃ W : Nat → En → Om → Prop, (∃ m, W m ρ ω) ∧ ∀ m ρ ω, W m ρ ω → c.w ρ ω (fun x ω1 => if x = true then b.w ρ ω1 ⟨fun ρ2 ω2 => ∃ m', m' < m ∧ W m' ρ2 ω2, k.rt, k.nx, fun ρ2 ω2 => ∃ m', m' < m ∧ W m' ρ2 ω2, k.xc⟩ else k.nx ρ ω1) fun x ω1 => k.xc x ρ ω1
  ok := fun W ρ z σ D' k h ok r hk => by
    obtain ⟨V, ⟨n, h⟩, hs⟩ := h
    refine ⟨fun m σ1 H1 => ∃ ρ1 z1, z1.h = H1 ∧ To K z z1 ∧ RepE K z1.d σ1 ρ1 ∧ V m ρ1 z1.o, ⟨n, ρ, z, rfl, ok.to, r, h⟩, ?_⟩
    rintro m σ1 H1 ⟨ρ1, z1, rfl, t1, r1, h1⟩
    refine c.ok W ρ1 z1 σ1 _ _ _ (hs m ρ1 z1.o h1) t1.ok r1 (fun x z2 t2 h2 => ?_) ((hk.to t1).qx r1)
    cases x with
    | false => exact iteF (hk.nx σ1 ρ1 z2 (t1.trans t2) (r1.mono t2.ex) h2)
    | true =>
      refine iteT ⟨fun σ3 H3 => ∃ m', m' < m ∧ ∃ ρ3 z3, z3.h = H3 ∧ To K z z3 ∧ RepE K z3.d σ3 ρ3 ∧ V m' ρ3 z3.o, fun σ3 H3 q => q, ?_⟩
      have t12 := t1.trans t2
      exact b.ok W ρ1 z2 σ1 _ ⟨fun ρ2 ω2 => ∃ m', m' < m ∧ V m' ρ2 ω2, k.rt, k.nx, fun ρ2 ω2 => ∃ m', m' < m ∧ V m' ρ2 ω2, k.xc⟩ h2 t2.ok (r1.mono t2.ex)
        ⟨fun σ3 ρ3 z3 t3 r3 ⟨m', lt, h3⟩ => ⟨m', lt, ρ3, z3, rfl, t12.trans t3, r3, h3⟩, (hk.to t12).rt, (hk.to t12).nx, fun σ3 ρ3 z3 t3 r3 ⟨m', lt, h3⟩ => ⟨m', lt, ρ3, z3, rfl, t12.trans t3, r3, h3⟩, (hk.to t12).xc⟩

/-! ### what is walked -/
structure ItOk (K : Fg) (J : It) (z0 : Z) (ds : List D) (chk : Om → Prop) : Prop where
  go : ∀ i z, To K z0 z → chk z.o → i < ds.length → J.go i z.h ∧ ∀ x H', J.yld i z.h x H' → ∃ z' d, To K z z' ∧ z'.h = H' ∧ z'.o = z.o ∧ ds[i]? = some d ∧ Rep K z'.d x d
  stop : ∀ i z, To K z0 z → chk z.o → ds.length ≤ i → J.stop i z.h
structure BI (K : Fg) where
  t : WX → TI
  w : En → Om → (List D → (Om → Prop) → Om → Prop) → (Exn → Om → Prop) → Prop
  ok : ∀ (W : WX) (ρ : En) (z : Z) (σ : St) (R : It → Hp → Prop) (Φ : List D → (Om → Prop) → Om → Prop) (Ψ : Exn → Om → Prop), w ρ z.o Φ Ψ → z.Ok K → RepE K z.d σ ρ →
    (∀ J z2 ds chk, To K z z2 → ItOk K J z2 ds chk → Φ ds chk z2.o → R J z2.h) → (∀ x cls d z2, To K z z2 → RepX K z2 cls d x → Ψ x z2.o → W cls d σ z2.h) → t W σ z.h R
def iAny (K : Fg) (te : TE) : TI := fun σ H R => te σ H fun x H1 => (∃ a, x = .ref a ∧ (∃ xs, SqL K H1 a xs) ∧ R (Itl K a) H1) ∨ (∃ a, x = .ref a ∧ (∃ xs, SqT K H1 a xs) ∧ R (Itt K a) H1) ∨ ∃ s, x = .str s ∧ R (Its s) H1
theorem pi_any {X : Cx} {tg e : Expr} {te : TE} (he : PE X e te) : PI X tg e (iAny X.K te) := by
  refine ⟨fun pins s σ H R I h => ?_⟩
  refine thn (he.run pins s σ H _ I h) fun v s1 ⟨x, H1, I1, r1, q1⟩ => ?_
  rcases q1 with ⟨a, e, ⟨xs, hq⟩, q⟩ | ⟨a, e, ⟨xs, hq⟩, q⟩ | ⟨y, e, q⟩
  · subst e
    cases r1
    obtain ⟨its, rv, p, hz⟩ := I1.list hq
    refine wpAny_pyIter_list p.isList ?_
    refine ⟨s1.heap.objs.size, [s1.heap.objs.size], _, _, H1, rfl, I1.kept (t' := s1.toks) fun b o e => Heap.get?_push_of_some _ e, turn_list a _, ⟨_, Heap.get?_push_size _ rfl, rfl, rfl⟩, fun b hb => ?_, q⟩
    have e : b = s1.heap.objs.size := by simpa using hb
    subst e
    exact I1.fpOk (Nat.le_refl _) (I1.hok.fresh (Nat.le_refl _))
  · subst e
    cases r1
    obtain ⟨its, rv, p, hz⟩ := I1.tuple hq
    refine wpAny_pyIter_tuple (show s1.heap.IsTuple a its.toArray from p) ?_
    refine ⟨s1.heap.objs.size, [s1.heap.objs.size], _, _, H1, rfl, I1.kept (t' := s1.toks) fun b o e => Heap.get?_push_of_some _ e, turn_tuple a _, ⟨_, Heap.get?_push_size _ rfl, rfl, rfl⟩, fun b hb => ?_, q⟩
    have e : b = s1.heap.objs.size := by simpa using hb
    subst e
    exact I1.fpOk (Nat.le_refl _) (I1.hok.fresh (Nat.le_refl _))
  · subst e
    obtain ⟨t, rfl⟩ := r1
    cases ha : y.cps.all (· < 128)
    · exact wpAny_pyIter_wide ha (pi_one (tk := s1.toks) I1 _ (turn_str _ y t "str_iterator" (.inr rfl)) ⟨_, Heap.get?_push_size _ rfl, rfl, rfl⟩ q)
    · exact wpAny_pyIter_ascii ha (pi_one (tk := s1.toks) I1 _ (turn_str _ y t "str_ascii_iterator" (.inl rfl)) ⟨_, Heap.get?_push_size _ rfl, rfl, rfl⟩ q)
theorem it_lst {z : Z} {a : Addr} {xs : List V} {ds : List D} (h : z.d a = some (.lst xs)) (r : RepL K z.d xs ds) : ItOk K (Itl K a) z ds fun _ => True where
  go := fun i z1 t _ hi => by
    have hz : z1.h a = some (.lst xs) := t.ok.fz _ _ (t.ex _ _ h)
    obtain ⟨d, hd⟩ : ∃ d, ds[i]? = some d := ⟨ds[i], List.getElem?_eq_getElem hi⟩
    obtain ⟨x, hx, rx⟩ := r.get hd
    refine ⟨⟨xs, x, SqL.of hz, hx⟩, fun y H' hy => ⟨z1, d, t.ok.to, hy.1.symm, rfl, hd, ?_⟩⟩
    have := hy.2 xs (SqL.of hz)
    rw [hx] at this; cases this
    exact rx.mono t.ex
  stop := fun i z1 t _ hi => ⟨xs, SqL.of (t.ok.fz _ _ (t.ex _ _ h)), by rw [r.length]; exact hi⟩
theorem it_scr {z : Z} {a : Addr} {ns : List Int} (h : SqL K z.d a (ns.map V.int)) : ItOk K (Itl K a) z (ns.map .int) fun _ => True where
  go := fun i z1 t _ hi => by
    have hz := t.ok.fz.sql (t.ex.sql h)
    have hi : i < ns.length := by simpa using hi
    have hx : (ns.map V.int)[i]? = some (.int ns[i]) := by simp [hi]
    refine ⟨⟨_, _, hz, hx⟩, fun y H' hy => ⟨z1, .int ns[i], t.ok.to, hy.1.symm, rfl, by simp [hi], ?_⟩⟩
    have := hy.2 _ hz
    rw [hx] at this; cases this
    exact .int _
  stop := fun i z1 t _ hi => ⟨_, t.ok.fz.sql (t.ex.sql h), by simpa using hi⟩
theorem it_tup {z : Z} {a : Addr} {xs : List V} {ds : List D} (h : SqT K z.d a xs) (r : RepL K z.d xs ds) : ItOk K (Itt K a) z ds fun _ => True where
  go := fun i z1 t _ hi => by
    have hz := t.ok.fz.sqt (t.ex.sqt h)
    obtain ⟨d, hd⟩ : ∃ d, ds[i]? = some d := ⟨ds[i], List.getElem?_eq_getElem hi⟩
    obtain ⟨x, hx, rx⟩ := r.get hd
    refine ⟨⟨xs, x, hz, hx⟩, fun y H' hy => ⟨z1, d, t.ok.to, hy.1.symm, rfl, hd, ?_⟩⟩
    have := hy.2 xs hz
    rw [hx] at this; cases this
    exact rx.mono t.ex
  stop := fun i z1 t _ hi => ⟨xs, t.ok.fz.sqt (t.ex.sqt h), by rw [r.length]; exact hi⟩
theorem it_ref (z : Z) (a : Addr) (ds : List D) : ItOk K (Itl K a) z ds fun ω => ω a = some (.lst ds) where
  go := fun i z1 t hc hi => by
    obtain ⟨_, xs, hz, r⟩ := t.ok.cell a _ hc
    obtain ⟨d, hd⟩ : ∃ d, ds[i]? = some d := ⟨ds[i], List.getElem?_eq_getElem hi⟩
    obtain ⟨x, hx, rx⟩ := r.get hd
    refine ⟨⟨xs, x, SqL.of hz, hx⟩, fun y H' hy => ⟨z1, d, t.ok.to, hy.1.symm, rfl, hd, ?_⟩⟩
    have := hy.2 xs (SqL.of hz)
    rw [hx] at this; cases this
    exact rx
  stop := fun i z1 t hc hi => by
    obtain ⟨_, xs, hz, r⟩ := t.ok.cell a _ hc
    exact ⟨xs, SqL.of hz, by rw [r.length]; exact hi⟩
theorem it_str (z : Z) (s : List Nat) : ItOk K (Its ⟨s.toArray⟩) z (s.map fun c => .str [c]) fun _ => True where
  go := fun i z1 t _ hi => by
    have hi : i < s.length := by simpa using hi
    refine ⟨by show i < s.toArray.size; simpa using hi, fun y H' hy => ⟨z1, .str [s[i]], t.ok.to, hy.1.symm, rfl, by simp [hi], ?_⟩⟩
    obtain ⟨_, c, hc, rfl⟩ := hy
    have e : c = s[i] := by
      have : s.toArray[i]? = some c := hc
      simp [hi] at this
      exact this.symm
    subst e
    exact .str [s[i]]
  stop := fun i z1 t _ hi => by show s.toArray.size ≤ i; simpa using hi
def rngD (lo : Int) (n : Nat) : List D := (List.range n).map fun i => .int (lo + (i : Nat))
theorem it_rng (z : Z) (lo : Int) (n : Nat) : ItOk K (Itr lo n) z (rngD lo n) fun _ => True where
  go := fun i z1 t _ hi => by
    have hi : i < n := by simpa [rngD] using hi
    refine ⟨hi, fun y H' hy => ⟨z1, .int (lo + (i : Nat)), t.ok.to, hy.1.symm, rfl, by simp [rngD, hi], ?_⟩⟩
    rw [hy.2]
    exact .int _
  stop := fun i z1 t _ hi => by show n ≤ i; simpa [rngD] using hi
def itemsW (x : D) (ω : Om) (Φ : List D → (Om → Prop) → Om → Prop) : Prop := match x with
  | .lst ds => Φ ds (fun _ => True) ω
  | .tup ds => Φ ds (fun _ => True) ω
  | .scr ns => Φ (ns.map .int) (fun _ => True) ω
  | .str s => Φ (s.map fun c => .str [c]) (fun _ => True) ω
  | .ref a => ∃ ds, ω a = some (.lst ds) ∧ Φ ds (fun ω' => ω' a = some (.lst ds)) ω
  | _ => False
def biSeq (e : BE K) : BI K where
  t := fun W => iAny K (e.t W)
  w := fun ρ ω Φ Ψ => e.w ρ ω (fun x ω1 => itemsW x ω1 Φ) Ψ
  ok := fun W ρ z σ R Φ Ψ h o r q qx => by
    refine e.ok W ρ z σ _ _ Ψ h o r (fun v z1 d t1 r1 h1 => ?_) qx
    unfold itemsW at h1
    split at h1
    · obtain ⟨a, xs, rfl, e1, e2⟩ := rep_lst r1
      exact .inl ⟨a, rfl, ⟨xs, SqL.of (t1.ok.fz _ _ e1)⟩, q _ z1 _ _ t1 (it_lst e1 e2) h1⟩
    · obtain ⟨a, xs, rfl, e1, e2⟩ := rep_tup r1
      exact .inr (.inl ⟨a, rfl, ⟨xs, t1.ok.fz.sqt e1⟩, q _ z1 _ _ t1 (it_tup e1 e2) h1⟩)
    · obtain ⟨a, rfl, e1⟩ := rep_scr r1
      exact .inl ⟨a, rfl, ⟨_, t1.ok.fz.sql e1⟩, q _ z1 _ _ t1 (it_scr e1) h1⟩
    · cases r1
      exact .inr (.inr ⟨_, rfl, q _ z1 _ _ t1 (it_str z1 _) h1⟩)
    · cases r1
      obtain ⟨ds, hc, h1⟩ := h1
      obtain ⟨_, xs, e1, _⟩ := t1.ok.cell _ _ hc
      exact .inl ⟨_, rfl, ⟨xs, SqL.of e1⟩, q _ z1 _ _ t1 (it_ref z1 _ ds) h1⟩
    · exact h1.elim
def biRng1 (a : BA K) : BI K where
  t := fun W => iRng1 (a.t W)
  w := fun ρ ω Φ Ψ => a.w ρ ω (fun xs ω1 => match xs with
    | [.int j] => (-(2 ^ 62) ≤ j ∧ j < 2 ^ 62) ∧ Φ (rngD 0 j.toNat) (fun _ => True) ω1
    | _ => False) Ψ
  ok := fun W ρ z σ R Φ Ψ h o r q qx => by
    refine a.ok W ρ z σ _ _ Ψ h o r (fun vs z1 ds t1 r1 h1 => ?_) qx
    split at h1
    · obtain ⟨x, rfl, r2⟩ := rep1 r1
      cases r2
      exact ⟨_, rfl, h1.1.1, h1.1.2, q _ z1 _ _ t1 (it_rng z1 0 _) h1.2⟩
    · exact h1.elim
def biRng2 (a : BA K) : BI K where
  t := fun W => iRng2 (a.t W)
  w := fun ρ ω Φ Ψ => a.w ρ ω (fun xs ω1 => match xs with
    | [.int i, .int j] => (-(2 ^ 62) ≤ i ∧ i < 2 ^ 62 ∧ -(2 ^ 62) ≤ j ∧ j < 2 ^ 62) ∧ Φ (rngD i (j - i).toNat) (fun _ => True) ω1
    | _ => False) Ψ
  ok := fun W ρ z σ R Φ Ψ h o r q qx => by
    refine a.ok W ρ z σ _ _ Ψ h o r (fun vs z1 ds t1 r1 h1 => ?_) qx
    split at h1
    · obtain ⟨x, y, rfl, r2, r3⟩ := rep2 r1
      cases r2; cases r3
      exact ⟨_, _, rfl, h1.1, q _ z1 _ _ t1 (it_rng z1 _ _) h1.2⟩
    · exact h1.elim

/-! ### for -/
def forGo (chk : Om → Prop) (g : BG K) (b : BS K) (k : KD) : List D → En → Om → Prop
  | [] => fun ρ ω => chk ω ∧ k.nx ρ ω
  | d :: r => fun ρ ω => chk ω ∧ g.w d ρ ω fun ρ1 ω1 => b.w ρ1 ω1 { k with nx := forGo chk g b k r, ct := forGo chk g b k r, bk := k.nx }
def bsFor (i : BI K) (g : BG K) (b : BS K) : BS K where
  t := fun W => tFor (i.t W) g.t (b.t W)
  w := fun ρ ω k => i.w ρ ω (fun ds chk ω1 => forGo chk g b k ds ρ ω1) fun x ω1 => k.xc x ρ ω1
  ok := fun W ρ z σ D' k h ok r hk => by
    refine i.ok W ρ z σ _ _ _ h ok r (fun J z0 ds chk t0 J0 h0 => ?_) (hk.qx r)
    refine ⟨fun i m σ1 H1 => m = ds.length - i ∧ i ≤ ds.length ∧ ∃ ρ1 z1, z1.h = H1 ∧ To K z0 z1 ∧ RepE K z1.d σ1 ρ1 ∧ forGo chk g b k (ds.drop i) ρ1 z1.o, ⟨_, rfl, Nat.zero_le _, ρ, z0, rfl, t0.ok.to, r.mono t0.ex, by simpa using h0⟩, ?_⟩
    rintro i m σ1 H1 ⟨rfl, hi, ρ1, z1, rfl, t1, r1, h1⟩
    by_cases c : i < ds.length
    · obtain ⟨d, hd⟩ : ∃ d, ds[i]? = some d := ⟨ds[i], List.getElem?_eq_getElem c⟩
      have e : ds.drop i = d :: ds.drop (i + 1) := by
        rw [List.drop_eq_getElem_cons c]
        congr 1
        rw [List.getElem?_eq_getElem c] at hd
        exact Option.some.inj hd
      rw [e] at h1
      obtain ⟨h1, h2⟩ := h1
      obtain ⟨g1, g2⟩ := J0.go i z1 t1 h1 c
      refine .inr ⟨g1, fun σ3 H3 => ∃ ρ3 z3, z3.h = H3 ∧ To K z0 z3 ∧ RepE K z3.d σ3 ρ3 ∧ forGo chk g b k (ds.drop (i + 1)) ρ3 z3.o, fun σ3 H3 q => ⟨_, by omega, rfl, c, q⟩, fun x H' hy => ?_⟩
      obtain ⟨z2, d', t2, rfl, eo, hd', rx⟩ := g2 x H' hy
      rw [hd] at hd'; cases hd'
      rw [← eo] at h2
      refine g.ok d x ρ1 z2 σ1 _ _ h2 t2.ok (r1.mono t2.ex) rx fun σ2 ρ2 z3 t3 r2 h3 => ?_
      have t03 := (t1.trans t2).trans t3
      exact b.ok W ρ2 z3 σ2 _ { k with nx := forGo chk g b k (ds.drop (i + 1)), ct := forGo chk g b k (ds.drop (i + 1)), bk := k.nx } h3 t3.ok r2
        ⟨fun σ3 ρ3 z4 t4 r4 h4 => ⟨ρ3, z4, rfl, t03.trans t4, r4, h4⟩, (hk.to (t0.trans t03)).rt, (hk.to (t0.trans t03)).nx, fun σ3 ρ3 z4 t4 r4 h4 => ⟨ρ3, z4, rfl, t03.trans t4, r4, h4⟩, (hk.to (t0.trans t03)).xc⟩
    · have e : ds.drop i = [] := List.drop_eq_nil_of_le (by omega)
      rw [e] at h1
      exact .inl ⟨J0.stop i z1 t1 h1.1 (by omega), hk.nx σ1 ρ1 z1 (t0.trans t1) r1 h1.2⟩

/-! ### comprehensions -/
/-- the places that a target stores -/
def Only (g : BG K) (vs : List Nat) : Prop := ∀ (v : V) (σ : St) (H : Hp) (Q : St → Hp → Prop), g.t v σ H Q → g.t v σ H fun σ2 H2 => (∀ τ : St, wipe σ vs = wipe τ vs → wipe σ2 vs = wipe τ vs) ∧ Q σ2 H2
theorem wipe_set {σ : St} {i : Nat} {x : Option V} : ∀ {vs : List Nat}, i ∈ vs → wipe (σ.set i x) vs = wipe σ vs
  | v :: vs, h => by
    show (wipe (σ.set i x) vs).set v none = (wipe σ vs).set v none
    by_cases c : i ∈ vs
    · rw [wipe_set c]
    · have e : i = v := by
        rcases List.mem_cons.mp h with h | h
        · exact h
        · exact absurd h c
      subst e
      have aux : ∀ ws : List Nat, i ∉ ws → wipe (σ.set i x) ws = (wipe σ ws).set i x := by
        intro ws
        induction ws with
        | nil => intro _; rfl
        | cons w ws ih =>
          intro hw
          have h1 : i ≠ w := fun e => hw (by rw [e]; exact List.mem_cons_self)
          have h2 : i ∉ ws := fun e => hw (List.mem_cons_of_mem _ e)
          show (wipe (σ.set i x) ws).set w none = ((wipe σ ws).set w none).set i x
          rw [ih h2, List.set_comm _ _ h1]
      rw [aux vs c, List.set_set]
theorem only_n {i : Nat} {vs : List Nat} (h : i ∈ vs) : Only (K := K) (bgN i) vs := fun v σ H Q q => ⟨fun τ e => by rw [wipe_set h]; exact e, q⟩
def OnlyS (g : BGs K) (vs : List Nat) : Prop := ∀ (xs : List V) (σ : St) (H : Hp) (Q : St → Hp → Prop), g.t xs σ H Q → g.t xs σ H fun σ2 H2 => (∀ τ : St, wipe σ vs = wipe τ vs → wipe σ2 vs = wipe τ vs) ∧ Q σ2 H2
theorem onlyS_n {vs : List Nat} : OnlyS (K := K) bgsN vs := fun xs σ H Q q => ⟨q.1, fun _ e => e, q.2⟩
/-- targets go through to what they store -/
def Mon (g : BG K) : Prop := ∀ (v : V) (σ : St) (H : Hp) (Q Q' : St → Hp → Prop), (∀ σ2 H2, Q σ2 H2 → Q' σ2 H2) → g.t v σ H Q → g.t v σ H Q'
def MonS (g : BGs K) : Prop := ∀ (v : List V) (σ : St) (H : Hp) (Q Q' : St → Hp → Prop), (∀ σ2 H2, Q σ2 H2 → Q' σ2 H2) → g.t v σ H Q → g.t v σ H Q'
theorem mon_n {i : Nat} : Mon (K := K) (bgN i) := fun _ _ _ _ _ h q => h _ _ q
theorem monS_n : MonS (K := K) bgsN := fun _ _ _ _ _ h q => ⟨q.1, h _ _ q.2⟩
theorem monS_c {g : BG K} {gs : BGs K} (h1 : Mon g) (h2 : MonS gs) : MonS (bgsC g gs) := fun vs σ H Q Q' h q => by
  obtain ⟨v, r, e, q⟩ := q
  exact ⟨v, r, e, h1 v σ H _ _ (fun σ2 H2 q2 => h2 r σ2 H2 Q Q' h q2) q⟩
theorem onlyS_c {g : BG K} {gs : BGs K} {vs : List Nat} (m : Mon g) (ms : MonS gs) (h1 : Only g vs) (h2 : OnlyS gs vs) : OnlyS (bgsC g gs) vs := fun xs σ H Q q => by
  obtain ⟨v, r, e, q⟩ := q
  refine ⟨v, r, e, ?_⟩
  refine m v σ H _ _ (fun σ2 H2 q2 => ?_) (h1 v σ H _ q)
  exact ms r σ2 H2 _ _ (fun σ3 H3 q3 => ⟨fun τ et => q3.1 τ (q2.1 τ et), q3.2⟩) (h2 r σ2 H2 _ q2.2)
theorem only_t {n : Nat} {gs : BGs K} {vs : List Nat} (h : OnlyS gs vs) : Only (bgT n gs) vs := fun v σ H Q q => by
  obtain ⟨a, xs, e, h1, h2, q⟩ := q
  exact ⟨a, xs, e, h1, h2, h xs σ H Q q⟩
theorem mon_t {n : Nat} {gs : BGs K} (h : MonS gs) : Mon (bgT n gs) := fun v σ H Q Q' hq q => by
  obtain ⟨a, xs, e, h1, h2, q⟩ := q
  exact ⟨a, xs, e, h1, h2, h xs σ H Q Q' hq q⟩
def W0 : WX := fun _ _ _ _ => False
def X0 : Exn → Om → Prop := fun _ _ => False
def lcGo (chk : Om → Prop) (g : BG K) (c : BT K) (e : BE K) (ρ : En) (F : List D → Om → Prop) : List D → List D → Om → Prop
  | [] => fun acc ω => chk ω ∧ F acc ω
  | d :: r => fun acc ω => chk ω ∧ g.w d ρ ω fun ρ1 ω1 => c.w ρ1 ω1 (fun b ω2 => if b = true then e.w ρ1 ω2 (fun y ω3 => acc.length < sizeLine ∧ lcGo chk g c e ρ F r (acc ++ [y]) ω3) X0 else lcGo chk g c e ρ F r acc ω2) X0
def bLc (own : Bool) (i : BI K) (g : BG K) (c : BT K) (e : BE K) (vs : List Nat) (hm : Mon g) (ho : Only g vs) : BE K where
  t := fun W => tLc (i.t W) g.t (c.t W0) (e.t W0) vs
  w := fun ρ ω Φ Ψ => i.w ρ ω (fun ds chk ω1 => lcGo chk g c e (wipeD ρ vs) (fun out ω2 => if own = true then ∀ a, ω2 a = none → Φ (.ref a) (ω2.set a (.lst out)) else Φ (.lst out) ω2) ds [] ω1) Ψ
  ok := fun W ρ z σ Q Φ Ψ h ok r q qx => by
    refine i.ok W ρ z σ _ _ Ψ h ok r (fun J z0 ds chk t0 J0 h0 => ?_) qx
    intro p hp
    have hp0 := t0.ok.free hp
    generalize hF : (fun (out : List D) (ω2 : Om) => if own = true then ∀ a, ω2 a = none → Φ (.ref a) (ω2.set a (.lst out)) else Φ (.lst out) ω2) = F at h0
    have tp : To K z0 ⟨z0.d, upd z0.h p (.lst []), z0.o, z0.t⟩ := by
      refine ⟨⟨fun a u e => ?_, fun a c e => ?_, tabs_new t0.ok.tab hp, t0.ok.tk, t0.ok.nd⟩, .refl _, fun a u e _ _ => ?_, upd_kept, rfl, fun _ e => .inl e, fun _ e => .inl e⟩
      · exact (upd_ne (ne_of_none (t0.ok.fz a u e) hp)).trans (t0.ok.fz a u e)
      · obtain ⟨c1, c2⟩ := t0.ok.cell a c e
        exact ⟨c1, c2.mono (.refl _) fun u e => (upd_ne (ne_of_none e hp)).trans e⟩
      · exact (upd_ne (ne_of_none e hp)).trans e
    refine ⟨fun j m H1 => m = ds.length - j ∧ j ≤ ds.length ∧ ∃ z1 xs acc, z1.h = H1 ∧ To K z0 z1 ∧ z1.h p = some (.lst xs) ∧ z1.o p = none ∧ z1.d p = none ∧ RepL K z1.d xs acc ∧ lcGo chk g c e (wipeD ρ vs) F (ds.drop j) acc z1.o,
      ⟨_, rfl, Nat.zero_le _, ⟨z0.d, upd z0.h p (.lst []), z0.o, z0.t⟩, [], [], rfl, tp, upd_same, hp0.2, hp0.1, .nil, by simpa using h0⟩, ?_⟩
    rintro j m H1 ⟨rfl, hj, z1, xs, acc, rfl, t1, hz, hzo, hzd, ra, h1⟩
    by_cases cc : j < ds.length
    · obtain ⟨d, hd⟩ : ∃ d, ds[j]? = some d := ⟨ds[j], List.getElem?_eq_getElem cc⟩
      have ed : ds.drop j = d :: ds.drop (j + 1) := by
        rw [List.drop_eq_getElem_cons cc]
        congr 1
        rw [List.getElem?_eq_getElem cc] at hd
        exact Option.some.inj hd
      rw [ed] at h1
      obtain ⟨h1, h2⟩ := h1
      obtain ⟨g1, g2⟩ := J0.go j z1 t1 h1 cc
      refine .inr ⟨g1, fun H3 => ∃ z3 xs3 acc3, z3.h = H3 ∧ To K z0 z3 ∧ z3.h p = some (.lst xs3) ∧ z3.o p = none ∧ z3.d p = none ∧ RepL K z3.d xs3 acc3 ∧ lcGo chk g c e (wipeD ρ vs) F (ds.drop (j + 1)) acc3 z3.o, fun H3 q3 => ⟨_, by omega, rfl, cc, q3⟩, fun x H' hy => ?_⟩
      obtain ⟨z2, d', t2, rfl, eo, hd', rx⟩ := g2 x H' hy
      rw [hd] at hd'; cases hd'
      rw [← eo] at h2
      have stay : ∀ {za zb : Z}, To K za zb → za.h p = some (.lst xs) → za.o p = none → za.d p = none → zb.h p = some (.lst xs) ∧ zb.o p = none ∧ zb.d p = none := by
        intro za zb t a1 a2 a3
        refine ⟨t.keep _ _ a1 a2 (fun _ z => by cases z), ?_, ?_⟩
        · cases eb : zb.o p with
          | none => rfl
          | some cb =>
            rcases t.fresh p (by simp [eb]) with w | w
            · exact absurd a2 w
            · rw [a1] at w; cases w
        · cases eb : zb.d p with
          | none => rfl
          | some cb =>
            rcases t.freshd p (by simp [eb]) with w | w | w | ⟨o', w, n'⟩
            · exact absurd a3 w
            · rw [a1] at w; cases w
            · exact absurd a2 w
            · rw [a1] at w; cases w; exact absurd rfl (n' _)
      obtain ⟨b1, b2, b3⟩ := stay t2 hz hzo hzd
      have rw2 : RepE K z2.d (wipe σ vs) (wipeD ρ vs) := (r.mono ((t0.trans t1).trans t2).ex).wipe vs
      refine hm x (wipe σ vs) z2.h _ _ (fun σ3 H3 q3 => ?_) (ho x (wipe σ vs) z2.h _ (g.ok d x (wipeD ρ vs) z2 (wipe σ vs) (fun σ3 H3 => ∃ ρ3 z3, z3.h = H3 ∧ To K z2 z3 ∧ RepE K z3.d σ3 ρ3 ∧
        c.w ρ3 z3.o (fun b ω2 => if b = true then e.w ρ3 ω2 (fun y ω3 => acc.length < sizeLine ∧ lcGo chk g c e (wipeD ρ vs) F (ds.drop (j + 1)) (acc ++ [y]) ω3) X0 else lcGo chk g c e (wipeD ρ vs) F (ds.drop (j + 1)) acc ω2) X0) _ h2 t2.ok rw2 rx fun σ3 ρ3 z3 t3 r3 h3 => ⟨ρ3, z3, rfl, t3, r3, h3⟩))
      obtain ⟨q1, ρ3, z3, rfl, t3, r3, h3⟩ := q3
      have ww : ∀ ws : List Nat, wipe (wipe σ ws) ws = wipe σ ws := by
        have a1 : ∀ (ws : List Nat) (τ : St) (i : Nat), i ∈ ws → (wipe τ ws).set i none = wipe τ ws := by
          intro ws
          induction ws with
          | nil => intro τ i hi; cases hi
          | cons w ws ih =>
            intro τ i hi
            show ((wipe τ ws).set w none).set i none = (wipe τ ws).set w none
            by_cases e : i = w
            · subst e; rw [List.set_set]
            · rcases List.mem_cons.mp hi with h | h
              · exact absurd h e
              · rw [List.set_comm _ _ (fun q => e q.symm), ih τ i h]
        have a2 : ∀ (us ws : List Nat), (∀ u ∈ us, u ∈ ws) → wipe (wipe σ ws) us = wipe σ ws := by
          intro us
          induction us with
          | nil => intro ws _; rfl
          | cons u us ih =>
            intro ws hu
            show (wipe (wipe σ ws) us).set u none = _
            rw [ih ws fun v hv => hu v (List.mem_cons_of_mem _ hv), a1 ws σ u (hu u List.mem_cons_self)]
        exact fun ws => a2 ws ws fun _ h => h
      refine ⟨(q1 (wipe σ vs) rfl).trans (ww vs), ?_⟩
      obtain ⟨b4, b5, b6⟩ := stay t3 b1 b2 b3
      refine c.ok W0 ρ3 z3 σ3 _ _ _ h3 t3.ok r3 (fun b z4 t4 h4 => ?_) fun _ _ _ _ _ _ w => w.elim
      obtain ⟨b7, b8, b9⟩ := stay t4 b4 b5 b6
      have t04 := ((t1.trans t2).trans t3).trans t4
      cases b with
      | false => exact iteF ⟨z4, xs, acc, rfl, t04, b7, b8, b9, ra.mono (((t2.trans t3).trans t4).ex), h4⟩
      | true =>
        refine iteT ?_
        refine e.ok W0 ρ3 z4 σ3 _ _ _ h4 t4.ok (r3.mono t4.ex) (fun y z5 dy t5 ry h5 => ?_) fun _ _ _ _ _ _ w => w.elim
        obtain ⟨c1, c2, c3⟩ := stay t5 b7 b8 b9
        have ra5 := ra.mono ((((t2.trans t3).trans t4).trans t5).ex)
        refine ⟨xs, c1, by rw [ra.length]; exact h5.1, ⟨z5.d, upd z5.h p (.lst (xs ++ [y])), z5.o, z5.t⟩, xs ++ [y], acc ++ [dy], rfl, ?_, upd_same, c2, c3, ra5.append (.cons ry .nil), h5.2⟩
        have t05 := t04.trans t5
        refine ⟨⟨fun a u e => ?_, fun a c e => ?_, tabs_put t05.ok.tab c1 (fun _ z => by cases z) (fun _ _ z => by unfold LamX.CodeO at z; cases z), t05.ok.tk, t05.ok.nd⟩, t05.ex, fun a u e n nt => ?_, fun a h => upd_kept a (t05.kept a h), t05.tt, t05.fresh, t05.freshd⟩
        · have ne : a ≠ p := fun w => by subst w; rw [show z5.d a = some u from e] at c3; cases c3
          exact (upd_ne ne).trans (t05.ok.fz a u e)
        · have ne : a ≠ p := fun w => by subst w; rw [show z5.o a = some c from e] at c2; cases c2
          obtain ⟨k1, k2⟩ := t05.ok.cell a c e
          exact ⟨k1, k2.mono (.refl _) fun u e => (upd_ne ne).trans e⟩
        · exact (upd_ne (ne_of_none e hp)).trans (t05.keep a u e n nt)
    · have ed : ds.drop j = [] := List.drop_eq_nil_of_le (by omega)
      rw [ed] at h1
      refine .inl ⟨J0.stop j z1 t1 h1.1 (by omega), ?_⟩
      have hf := h1.2
      rw [← hF] at hf
      cases own with
      | false =>
        refine q (.ref p) ⟨upd z1.d p (.lst xs), z1.h, z1.o, z1.t⟩ (.lst acc) (t0.trans ?_) (.lst upd_same (ra.mono (Exd.new hzd))) hf
        refine ⟨⟨fun a u e => ?_, fun a c e => ?_, t1.ok.tab, t1.ok.tk, nd_upd t1.ok.nd (by intro _ z; cases z)⟩, t1.ex.trans (Exd.new hzd), t1.keep, t1.kept, t1.tt, t1.fresh, fun a e => ?_⟩
        · by_cases w : a = p
          · subst w
            have e : upd z1.d a (.lst xs) a = some u := e
            rw [upd_same] at e; cases e; exact hz
          · have e : upd z1.d p (.lst xs) a = some u := e
            rw [upd_ne w] at e; exact t1.ok.fz a u e
        · have ne : a ≠ p := fun w => by subst w; rw [show z1.o a = some c from e] at hzo; cases hzo
          obtain ⟨k1, k2⟩ := t1.ok.cell a c e
          exact ⟨(upd_ne ne).trans k1, k2.mono (Exd.new hzd) fun u e => e⟩
        · by_cases w : a = p
          · subst w; exact .inr (.inl hp)
          · have e : upd z1.d p (.lst xs) a ≠ none := e
            rw [upd_ne w] at e; exact t1.freshd a e
      | true =>
        refine q (.ref p) ⟨z1.d, z1.h, z1.o.set p (.lst acc), z1.t⟩ (.ref p) (t0.trans ?_) (.ref p) (hf p hzo)
        refine ⟨⟨t1.ok.fz, fun a c e => ?_, t1.ok.tab, t1.ok.tk, t1.ok.nd⟩, t1.ex, t1.keep, t1.kept, t1.tt, fun a e => ?_, t1.freshd⟩
        · by_cases w : a = p
          · subst w
            have e : z1.o.set a (.lst acc) a = some c := e
            rw [Om.set_same] at e; cases e
            exact ⟨hzd, xs, hz, ra⟩
          · have e : z1.o.set p (.lst acc) a = some c := e
            rw [Om.set_ne w] at e
            exact t1.ok.cell a c e
        · by_cases w : a = p
          · subst w; exact .inr hp
          · have e : z1.o.set p (.lst acc) a ≠ none := e
            rw [Om.set_ne w] at e; exact t1.fresh a e

/-! ### defs that raise nothing, and their calls -/
abbrev WP := List D → Om → (D → Om → Prop) → Prop
def SpP (K : Fg) (W : WP) : Sp := fun vs H Q _ => ∃ (z : Z) (ds : List D) (Φ : D → Om → Prop), z.h = H ∧ z.Ok K ∧ RepL K z.d vs ds ∧ W ds z.o Φ ∧ ∀ v z2 d, To K z z2 → Rep K z2.d v d → Φ d z2.o → Q v z2.h
/-- a call; dvs: the values of the parameters that are left out -/
def bCall (W : WP) (vs : List V) (ds : List D) (hd : ∀ H, RepL K H vs ds) (a : BA K) : BE K where
  t := fun X => tCall (SpP K W) vs E0 (a.t X)
  w := fun ρ ω Φ Ψ => a.w ρ ω (fun xs ω1 => W (xs ++ ds) ω1 Φ) Ψ
  ok := fun X ρ z σ Q Φ Ψ h ok r q qx => by
    refine a.ok X ρ z σ _ _ Ψ h ok r (fun xs z1 es t1 r1 h1 => ?_) qx
    exact ⟨z1, es ++ ds, Φ, rfl, t1.ok, r1.append (hd _), h1, fun v z2 d t2 => q v z2 d (t1.trans t2)⟩
abbrev bCall0 (W : WP) (a : BA K) : BE K := bCall W [] [] (fun _ => .nil) a
def startD (n : Nat) (ds : List D) : En := ds.map some ++ List.replicate (n - ds.length) none
theorem rep_start {N : List Str} {vs : List V} {ds : List D} {H : Hp} (r : RepL K H vs ds) : RepE K H (L2.start N vs) (startD N.length ds) := by
  unfold L2.start startD
  refine ⟨by simp [r.length], fun i d hi => ?_⟩
  by_cases c : i < ds.length
  · rw [List.getElem?_append_left (by simpa using c)] at hi
    rw [List.getElem?_append_left (by simpa [r.length] using c)]
    rw [List.getElem?_map] at hi
    cases e : ds[i]? with
    | none => rw [e] at hi; cases hi
    | some d' =>
      rw [e] at hi; cases hi
      obtain ⟨v, h1, h2⟩ := r.get e
      exact ⟨v, by rw [List.getElem?_map, h1]; rfl, h2⟩
  · rw [List.getElem?_append_right (by simpa using c)] at hi
    simp [List.getElem?_replicate] at hi
theorem fnP {P : Program} {w : World} {mg : Str → Option Value} {base : Heap} {x qual : Str} {st : Stmt} {f : Addr} {fd : FuncData} {N ps : List Str} {k : Nat} (F : Fun K x qual st f fd) (S : FnScope N ps (defScope st)) {W : WP} {n : Nat} (hn : N.length = n) (B : BS K)
    (len : ∀ ds ω Φ, W ds ω Φ → ds.length = ps.length)
    (hb : ∀ (cdv : Value) (A : Around) (outer : List Env) (s : Shared) (H : Hp) (E : XK), Room k (A.deeper (PyProof.Rows.envOfC qual (defScope st) s.heap.objs.size f cdv)) → PSs (cxOf CX0 P w K mg base N qual (defScope st) f cdv A outer s H E).nox (defBody st) (B.t W0))
    (hw : ∀ ds ω Φ, W ds ω Φ → B.w (startD n ds) ω ⟨fun _ ω => Φ .non ω, Φ, fun _ _ => False, fun _ _ => False, fun _ _ _ => False⟩) : FnOk P w K mg base CX0 (k + 1) f fd ps (SpP K W) := by
  refine F.ok S (fun vs H Q E h => ?_) (fun cdv A outer s H vs Q E hr h => ⟨B.t W0, hb cdv A outer s H E hr, ?_⟩)
  · obtain ⟨z, ds, Φ, _, _, r, hW, _⟩ := h
    rw [r.length]
    exact len ds _ _ hW
  · obtain ⟨z, ds, Φ, rfl, ok, r, hW, q⟩ := h
    subst hn
    exact B.ok W0 (startD N.length ds) z (L2.start N vs) _ _ (hw ds z.o Φ hW) ok (rep_start r) ⟨fun σ2 ρ2 z2 t _ h2 => q .non z2 .non t .non h2, fun v d z2 t r2 h2 => q v z2 d t r2 h2, fun _ _ _ _ _ h => h.elim, fun _ _ _ _ _ h => h.elim, fun _ _ _ _ _ _ _ _ _ h => h.elim⟩
end
end T

/-! The hand layer's rules, told of the bundles: what a printed derivation is made of. -/
namespace T
open PySem L2
theorem hq_of {A : Around} {k : Nat} (hr : Room k A) : A.units + 64 < cLine := by have := hr.un; omega
theorem call_all {X : Cx} (hc : X.calm = true := by rfl) : CallR X (.builtin "all") (cAll (K := X.K)).r := cr_all hc
def bLit {K : Fg} (x : Str) (l : List Nat) (h : cs x = l) : BE K := bCon (.str x) (.str l) fun _ => by rw [← h]; exact Rep.cs x
section
variable {X : Cx} {W : WX} {a b c e : Expr} {es : List Expr} {A B C : BE X.K} {As : BA X.K} {pos p pos' : Pos} {x : Str}
theorem P_var (i : Nat) (hN : X.N[i]? = some x := by rfl) (hv : Vis X.env.scope x := by first | exact Or.inl rfl | exact Or.inr (Or.inl rfl) | exact Or.inr (Or.inr rfl)) (hd : (x == ("__debug__" : Str)) = false := by decide)
    (hcd : (x == ("__classdict__" : Str)) = false := by decide) : PE X (.Name x pos) ((bVar i : BE X.K).t W) := pe_var hN hv hd hcd
theorem P_int {i : Int} {j : Nat} : PE X (.Constant (.int i) j pos) ((bInt i : BE X.K).t W) := pe_int
theorem P_bl {i : Bool} {j : Nat} : PE X (.Constant (.bool i) j pos) ((bBl i : BE X.K).t W) := pe_bl
theorem P_non {j : Nat} : PE X (.Constant .none j pos) ((bNon : BE X.K).t W) := pe_non
theorem P_str {s : Str} {j : Nat} : PE X (.Constant (.str s) j pos) ((bStr s : BE X.K).t W) := pe_str
theorem P_lit {s : Str} {l : List Nat} {h : cs s = l} {j : Nat} : PE X (.Constant (.str s) j pos) ((bLit s l h : BE X.K).t W) := pe_str
theorem P_glob {v : V} {d : D} {hr : ∀ H, Rep X.K H v d} {u : Value} (hm : X.mg x = some u) (r : RelV v u) (hg : Gl X x := by rfl) (hd : (x == ("__debug__" : Str)) = false := by decide) : PE X (.Name x pos) ((bCon v d hr : BE X.K).t W) := pe_glob hg hm r hd
theorem P_op {op : Operator} {o : O2 X.K} (ho : OpR X (binaryOp op) o.r) (ha : PE X a (A.t W)) (hb : PE X b (B.t W)) : PE X (.BinOp a op b pos) ((bOp o A B).t W) := pe_op ho ha hb
theorem P_neg (ha : PE X a (A.t W)) : PE X (.UnaryOp .USub a pos) ((bNeg A).t W) := show PE X _ (tUn (rU fun i => .int (-i)) (A.t W)) from pe_un un_neg ha
theorem P_cmp {op : CmpOp} {o : O2 X.K} (ho : OpR X (compareOp op) o.r) (ha : PE X a (A.t W)) (hb : PE X b (B.t W)) (hm : behindInMarks op b = false := by first | exact nomark _ | rfl) : PE X (.Compare a [op] [b] pos) ((bOp o A B).t W) := pe_cmpR ho ha hb hm
theorem T_cmp {op : CmpOp} {o : O2 X.K} (ho : OpR X (compareOp op) o.r) (ha : PE X a (A.t W)) (hb : PE X b (B.t W)) (hm : behindInMarks op b = false := by first | exact nomark _ | rfl) : PT X (.Compare a [op] [b] pos) ((btC (bOp o A B)).t W) := pt_cmpR ho ha hb hm
theorem P_chain {op op' : CmpOp} {o o' : O2 X.K} (ho : OpR X (compareOp op) o.r) (ho' : OpR X (compareOp op') o'.r) (ha : PE X a (A.t W)) (hb : PE X b (B.t W)) (hc : PE X c (C.t W)) (hm : lastMarks [op, op'] [b, c] = false := by with_unfolding_all rfl) :
    PE X (.Compare a [op, op'] [b, c] pos) ((bChain o o' A B C).t W) := pe_chain ho ho' ha hb hc hm
theorem T_chain {op op' : CmpOp} {o o' : O2 X.K} (ho : OpR X (compareOp op) o.r) (ho' : OpR X (compareOp op') o'.r) (ha : PE X a (A.t W)) (hb : PE X b (B.t W)) (hc : PE X c (C.t W)) (hm : lastMarks [op, op'] [b, c] = false := by with_unfolding_all rfl) :
    PT X (.Compare a [op, op'] [b, c] pos) ((btC (bChain o o' A B C)).t W) := pt_chain ho ho' ha hb hc hm
theorem P_ix (ha : PE X a (A.t W)) (hb : PE X b (B.t W)) (hs : PlainIx b := by exact fun _ _ => rfl) : PE X (.Subscript a b pos) ((bOp oIx A B).t W) := pe_ix ix_oIx ha hb hs
theorem O_n : PO X none ((boN : BO X.K).t W) := po_none
theorem O_s (h : PE X a (A.t W)) : PO X (some a) ((boS A).t W) := po_some h
theorem P_sl {own : Bool} {L U : BO X.K} {lo hi : Option Expr} (ha : PE X a (A.t W)) (hl : PO X lo (L.t W)) (hu : PO X hi (U.t W)) : PE X (.Subscript a (.Slice lo hi none p) pos) ((bSl (oSl own) A L U).t W) := pe_slice sl_oSl ha hl hu
theorem P_one {op : BoolOp} (h : PE X a (A.t W)) : PE X (.BoolOp op [a] pos) (A.t W) := pe_one h
theorem P_and (ha : PE X a (A.t W)) (hb : PE X (.BoolOp .And (b :: es) pos) (B.t W)) : PE X (.BoolOp .And (a :: b :: es) pos) ((bAndT A B).t W) := pe_andT ha hb
theorem P_or (ha : PE X a (A.t W)) (hb : PE X (.BoolOp .Or (b :: es) pos) (B.t W)) : PE X (.BoolOp .Or (a :: b :: es) pos) ((bOrT A B).t W) := pe_orT ha hb
theorem P_not (ha : PE X a (A.t W)) : PE X (.UnaryOp .Not a pos) ((bNotT A).t W) := pe_notT ha
theorem T_tru (ha : PE X a (A.t W)) (he : ∀ whole, isTrue a X.env whole = (do let v ← whole; standAt a.pos; holding [v] (truthy v)) := by intro _; rfl) : PT X a ((btTru A).t W) := pt_truth ha he
section
variable {t1 t2 : BT X.K}
theorem P_if (hc : PT X c (t1.t W)) (ha : PE X a (A.t W)) (hb : PE X b (B.t W)) : PE X (.IfExp c a b pos) ((bIf t1 A B).t W) := pe_ifExp hc ha hb
theorem W_and1 (ha : PT X a (t1.t W)) : PW X (.BoolOp .And [a] pos) (t1.t W) := pw_and1 ha
theorem W_or1 (ha : PT X a (t1.t W)) : PW X (.BoolOp .Or [a] pos) (t1.t W) := pw_or1 ha
theorem W_and (ha : PT X a (t1.t W)) (hb : PW X (.BoolOp .And (b :: es) pos) (t2.t W)) : PW X (.BoolOp .And (a :: b :: es) pos) ((btAnd t1 t2).t W) := pw_and ha hb
theorem W_or (ha : PT X a (t1.t W)) (hb : PW X (.BoolOp .Or (b :: es) pos) (t2.t W)) : PW X (.BoolOp .Or (a :: b :: es) pos) ((btOr t1 t2).t W) := pw_or ha hb
theorem T_not (ha : PT X a (t1.t W)) : PT X (.UnaryOp .Not a pos) ((btNot t1).t W) := pt_not ha
end
theorem A_n : PA X [] ((baN : BA X.K).t W) := pa_nil
theorem A_c (ha : PE X e (A.t W)) (hr : PA X es (As.t W)) (hs : starEach (e :: es) X.env = (false, eval e X.env) :: starEach es X.env := by rfl) : PA X (e :: es) ((baC A As).t W) := pa_cons ha hr hs
theorem P_tup {x1 : _} (h : PA X es (As.t W)) : PE X (.Tuple es x1 pos) ((bTup As).t W) := pe_tup h
theorem P_lst {own : Bool} (h : PA X es (As.t W)) : PE X (.List es pos) ((bLst own As).t W) := pe_lst h
theorem P_dk : PE X (.Dict [] [] pos) ((bDnewK : BE X.K).t W) := pe_dnewK
theorem P_dt : PE X (.Dict [] [] pos) ((bDnewT : BE X.K).t W) := pe_dnewT
theorem P_frz (h : PE X e (A.t W)) : PE X e ((bFrz A).t W) := h
theorem P_B {id : String} {cb : CB X.K} (hc : CallR X (.builtin id) cb.r) (hm : X.mg x = none) (hv : bootBuiltins x = some (.builtin id)) (ha : PA X (e :: es) (As.t W)) (hg : Gl X x := by rfl) (hn : x ≠ "__name__" := by decide) (hdb : (x == ("__debug__" : Str)) = false := by decide)
    (he : starEach (e :: es) X.env = (false, eval e X.env) :: starEach es X.env := by rfl) (hpl : (backTo pos (starEach es X.env)).any (·.1) = false := by rfl) : PE X (.Call (.Name x p) (e :: es) [] pos) ((bCB cb As).t W) := pe_callB hc hg hm hv ha hn hdb he hpl
theorem P_Ty {id : String} {cb : CB X.K} (hc : CallR X (.type id) cb.r) (hm : X.mg x = none) (hv : bootBuiltins x = some (.type id)) (ha : PA X (e :: es) (As.t W)) (hg : Gl X x := by rfl) (hn : x ≠ "__name__" := by decide) (hdb : (x == ("__debug__" : Str)) = false := by decide)
    (he : starEach (e :: es) X.env = (false, eval e X.env) :: starEach es X.env := by rfl) (hpl : (backTo pos (starEach es X.env)).any (·.1) = false := by rfl) : PE X (.Call (.Name x p) (e :: es) [] pos) ((bCB cb As).t W) := pe_callTy hc hg hm hv ha hn hdb he hpl
theorem P_isi {U : Str} {Ty : String} {hU : Ty = "bool" ∨ Ty = "int" ∨ Ty = "str" ∨ Ty = "tuple" ∨ Ty = "list" ∨ Ty = "dict"} (hm : X.mg "isinstance" = none) (hm2 : X.mg U = none) (hv : bootBuiltins U = some (.type Ty)) (ha : PE X e (A.t W)) (hg : Gl X "isinstance" := by rfl) (hg2 : Gl X U := by rfl)
    (hn : U ≠ "__name__" := by decide) (hdb : (U == ("__debug__" : Str)) = false := by decide)
    (he : starEach (e :: [.Name U p]) X.env = (false, eval e X.env) :: starEach [.Name U p] X.env := by rfl) (hpl : (backTo pos (starEach [.Name U p] X.env)).any (·.1) = false := by rfl) (he2 : starEach [.Name U p] X.env = (false, eval (.Name U p) X.env) :: starEach [] X.env := by rfl) :
    PE X (.Call (.Name "isinstance" pos') [e, .Name U p] [] pos) ((bIsi Ty hU A).t W) :=
  pe_callB call_isi hg hm (by decide +kernel) (pa_cons ha (pa_cons (pe_bltn (v := .ty Ty) hg2 hm2 hv rfl hn hdb) pa_nil he2) he) (by decide) (by decide) he hpl
theorem P_call {k : Nat} {f : Addr} {fd : FuncData} {ps : List Str} {Wf : WP} {vs : List V} {ds : List D} {hd : ∀ H, RepL X.K H vs ds} {us : List Value} (F : FnOk X.prog X.w X.K X.mg X.base CX0 k f fd ps (SpP X.K Wf)) (hr : Room k X.A) (hm : X.mg x = some (.ref f)) (hk : PySem.W.keepIn X.K (.ref f) = true) (hb : Binds X.K fd ps us) (hv : Vals vs us)
    (ha : PA X (e :: es) (As.t W)) (hg : Gl X x := by rfl) (hdb : (x == ("__debug__" : Str)) = false := by decide) (he : starEach (e :: es) X.env = (false, eval e X.env) :: starEach es X.env := by rfl) (hpl : (backTo pos (starEach es X.env)).any (·.1) = false := by rfl) :
    PE X (.Call (.Name x p) (e :: es) [] pos) ((bCall Wf vs ds hd As).t W) := pe_call F hr hg hm hk hb hv pass0 ha hdb he hpl

/-! ### statements -/
variable {st : Stmt} {sts : List Stmt} {S S2 : BS X.K} {G : BG X.K} {T1 : BT X.K} {I : BI X.K} {own : List (Str × Nat)}
theorem S_nil : PSs X [] ((bsNext : BS X.K).t W) := pss_nil
theorem S_one (h : PS X st (S.t W)) : PSs X [st] (S.t W) := pss_one h
theorem S_cons (h : PS X st (S.t W)) (h2 : PSs X sts (S2.t W)) : PSs X (st :: sts) ((bsSeq S S2).t W) := show PSs X _ (tSeq (S.t W) (S2.t W)) from pss_cons h h2
theorem S_pass : PS X (.Pass pos) ((bsNext : BS X.K).t W) := ps_pass
theorem S_doc {s : Str} {j : Nat} : PS X (.Expr (.Constant (.str s) j pos') pos) ((bsNext : BS X.K).t W) := ps_doc
theorem S_break : PS X (.Break pos) ((bsBreak : BS X.K).t W) := ps_break
theorem S_cont : PS X (.Continue pos) ((bsCont : BS X.K).t W) := ps_continue
theorem S_expr (he : PE X e (A.t W)) (hs : swapsWith e none pos.line X.env = pure false := by rfl) : PS X (.Expr e pos) ((bsDrop A).t W) := ps_expr he hs
theorem S_ret (he : PE X e (A.t W)) : PS X (.Return (some e) pos) ((bsRet A).t W) := ps_ret he
theorem S_retN : PS X (.Return none pos) ((bsRetN : BS X.K).t W) := ps_retN
theorem S_if {t u : List Stmt} (hc : PT X c (T1.t W)) (ha : PSs X t (S.t W)) (hb : PSs X u (S2.t W)) : PS X (.If c t u pos) ((bsIf T1 S S2).t W) := ps_if hc ha hb
theorem S_set {i : Nat} (hN : X.N.Nodup) (he : PE X e (A.t W)) (hi : X.N[i]? = some x := by rfl) (hx : Loc X.env.scope x := by first | exact Or.inl rfl | exact Or.inr rfl) (hs : swapsWith e (some (.Name x pos')) pos.line X.env = pure false := by rfl)
    (hf : X.fn x = true ∨ X.env.scope.names.lookup x = some .local := by first | exact .inl rfl | exact .inr rfl) : PS X (.Assign [.Name x pos'] e pos) ((bsAsg A (bgN i)).t W) := ps_set hN hi hx he hs hf
theorem S_asg {tg : Expr} (he : PE X e (A.t W)) (hg : PG X tg G.t) (hs : swapsWithSole [tg] e pos.line X.env = pure false := by rfl) (hw : swappedStores [tg] e X.env = pure none := by rfl)
    (h1 : (assignEach [tg] X.env).map (·.2) = [assign tg X.env] := by rfl) : PS X (.Assign [tg] e pos) ((bsAsg A G).t W) := ps_asg he hg hs hw h1
theorem S_aug {i : Nat} {op : Operator} {o : O2 X.K} (hN : X.N.Nodup) (ho : OpR X (inplaceOp op) o.r) (he : PE X e (A.t W)) (hi : X.N[i]? = some x := by rfl) (hx : Loc X.env.scope x := by first | exact Or.inl rfl | exact Or.inr rfl)
    (hf : X.fn x = true ∨ X.env.scope.names.lookup x = some .local := by first | exact .inl rfl | exact .inr rfl) : PS X (.AugAssign (.Name x pos') op e pos) ((bsAug i A o).t W) :=
  ps_aug hN hi hx he (fun pins s σ H x y v u Q I rx ry h => ho pins s σ H x y v u Q I rx ry h) hf
theorem S_while {body : List Stmt} (hp : PassesOwn (model X.prog X.w) X.A X.env X.xe) (hc : PT X c (T1.t W)) (hb : PSs X body (S.t W)) : PS X (.While c body [] pos) ((bsWhile T1 S).t W) := ps_while hp hc hb
theorem S_for {tg : Expr} {body : List Stmt} (hp : PassesOwn (model X.prog X.w) X.A X.env X.xe) (hi : PI X tg e (I.t W)) (hg : PG X tg G.t) (hb : PSs X body (S.t W)) (hc : X.calm = true := by rfl) (hs : ∀ x, foldedSetIterable e X.env x = pure x := by intro _; rfl) : PS X (.For tg e body [] pos) ((bsFor I G S).t W) := ps_for hp hc hi hg hb hs
theorem G_n (i : Nat) (hN : X.N.Nodup) (hi : X.N[i]? = some x := by rfl) (hx : Loc X.env.scope x := by first | exact Or.inl rfl | exact Or.inr rfl) (hf : X.fn x = true ∨ X.env.scope.names.lookup x = some .local := by first | exact .inl rfl | exact .inr rfl) : PG X (.Name x pos) (bgN i : BG X.K).t := pg_name hN hi hx hf
theorem Gs_n : PGs X [] (bgsN : BGs X.K).t := pgs_nil
theorem Gs_c {Gs : BGs X.K} (h1 : PG X e G.t) (h2 : PGs X es Gs.t) (hs : (assignEach (e :: es) X.env).map (·.2) = assign e X.env :: (assignEach es X.env).map (·.2) := by rfl) : PGs X (e :: es) (bgsC G Gs).t := pgs_cons h1 h2 hs
theorem G_t {Gs : BGs X.K} {k n : Nat} (h : PGs X es Gs.t) (hc : X.calm = true := by rfl) (hn : (assignEach es X.env).length = n := by rfl) (hst : (assignEach es X.env).findIdx? (·.1) = none := by rfl) : PG X (.Tuple es k pos) (bgT n Gs).t := pg_tup hc h hn hst
theorem I_seq {tg : Expr} (h : PE X e (A.t W)) : PI X tg e ((biSeq A).t W) := pi_any h
theorem I_r1 {tg : Expr} (hm : X.mg "range" = none) (ha : PA X [a] (As.t W)) (hg : Gl X "range" := by rfl) (hs : starEach [a] X.env = [(false, eval a X.env)] := by rfl) : PI X tg (.Call (.Name "range" p) [a] [] pos) ((biRng1 As).t W) := pi_range1 hg hm ha hs
theorem I_r2 {tg : Expr} (hm : X.mg "range" = none) (ha : PA X [a, b] (As.t W)) (hg : Gl X "range" := by rfl) (hs : starEach [a, b] X.env = [(false, eval a X.env), (false, eval b X.env)] := by rfl) (hs2 : starEach [b] X.env = [(false, eval b X.env)] := by rfl) :
    PI X tg (.Call (.Name "range" p) [a, b] [] pos) ((biRng2 As).t W) := pi_range2 hg hm ha hs hs2
theorem Ts_n : PTs X [] ((btYes : BT X.K).t W) := pts_nil
theorem Ts_1 (h : PT X c (T1.t W)) : PTs X [c] (T1.t W) := pts_one h
theorem P_lc {ow : Bool} {elt tg iter : Expr} {ifs : List Expr} {scope : Scope} {own : List (Str × Nat)} {hm : Mon G} {ho : Only G (own.map (·.2))} (hN : X.N.Nodup) (hi : PI X tg iter (I.t W)) (ok : BlkOk X.N X.env.scope scope own)
    (hg : ∀ (s : Shared) (H : Hp) (C : Addr) (cl : List (Str × Addr)) (fp : List Addr), PG (X.blk s H scope (compEnvC scope cl C X.env) fp) tg G.t) (ht : ∀ (s : Shared) (H : Hp) (C : Addr) (cl : List (Str × Addr)) (fp : List Addr), PTs (X.blk s H scope (compEnvC scope cl C X.env) fp) ifs (T1.t W0))
    (he : ∀ (s : Shared) (H : Hp) (C : Addr) (cl : List (Str × Addr)) (fp : List Addr), PE (X.blk s H scope (compEnvC scope cl C X.env) fp) elt (A.t W0)) (hs : ∀ x, foldedSetIterable iter X.env x = pure x := by intro _; rfl) (hc : X.calm = true := by rfl) :
    PE X (.ListComp elt [⟨tg, iter, ifs, 0⟩] scope pos) ((bLc ow I G T1 A (own.map (·.2)) hm ho).t W) := pe_lc hc hN hi ok hg ht he hs
theorem S_setLc {ow : Bool} {i : Nat} {y : Str} {py : Pos} {elt tg iter : Expr} {ifs : List Expr} {scope : Scope} {own : List (Str × Nat)} {hm : Mon G} {ho : Only G (own.map (·.2))} {spos : Pos} (hN : X.N.Nodup) (hi : PI X tg iter (I.t W)) (ok : BlkOk X.N X.env.scope scope own)
    (hg : ∀ (s : Shared) (H : Hp) (C : Addr) (cl : List (Str × Addr)) (fp : List Addr), PG (X.blk s H scope (compEnvC scope cl C X.env) fp) tg G.t) (ht : ∀ (s : Shared) (H : Hp) (C : Addr) (cl : List (Str × Addr)) (fp : List Addr), PTs (X.blk s H scope (compEnvC scope cl C X.env) fp) ifs (T1.t W0))
    (he : ∀ (s : Shared) (H : Hp) (C : Addr) (cl : List (Str × Addr)) (fp : List Addr), PE (X.blk s H scope (compEnvC scope cl C X.env) fp) elt (A.t W0))
    (hy : X.N[i]? = some y := by rfl) (hyl : X.env.scope.names.lookup y = some .local := by rfl) (hsw : swapsWith (.ListComp elt [⟨tg, iter, ifs, 0⟩] scope pos) (some (.Name y py)) spos.line X.env = pure true := by exact sw_true rfl rfl rfl (by decide +kernel))
    (hs : ∀ x, foldedSetIterable iter X.env x = pure x := by intro _; rfl) (hc : X.calm = true := by rfl) :
    PS X (.Assign [.Name y py] (.ListComp elt [⟨tg, iter, ifs, 0⟩] scope pos) spos) ((bsAsg (bLc ow I G T1 A (own.map (·.2)) hm ho) (bgN i)).t W) := ps_setLc hc hN hy hyl hsw hi ok hg ht he hs
end
end T

/-! A dict beside a whole number. -/
namespace PySem
namespace SeqAt
theorem dict_eq_declines_int (l : Addr) (es : Array DictEntry) (ep : Nat) (dd : Option Addr) (sl : Array (Option Value)) (b : Int) (u : Tok) :
    Meets (Builtin.«dict.__eq__» ⟨[.ref l, .int b u], []⟩) (fun _ R s => s.heap.get? l = some { cls := .type "dict", dict := dd, data := .dict es ep, slots := sl } ∧ R (.ok (.ret .notImplemented)) s) :=
  .of_wp fun prog w A R s h => by obtain ⟨hp, g, d, tk, os⟩ := s; obtain ⟨hl, h⟩ := h; have f1 := F.sub_int_dict; wp_walk using wpAny_loadPart' hl; exact ⟨_, rfl, h⟩
theorem int_eq_declines_dict (b : Int) (u : Tok) (l : Addr) (c : Value) (es : Array DictEntry) (ep : Nat) (dd : Option Addr) (sl : Array (Option Value)) :
    Meets (Builtin.«int.__eq__» ⟨[.int b u, .ref l], []⟩) (fun _ R s => s.heap.get? l = some { cls := c, dict := dd, data := .dict es ep, slots := sl } ∧ R (.ok (.ret .notImplemented)) s) :=
  .of_wp fun prog w A R s h => by obtain ⟨hp, g, d, tk, os⟩ := s; obtain ⟨hl, h⟩ := h; wp_walk using wpAny_loadPart' hl, wpAny_load hl; exact ⟨_, rfl, h⟩
theorem RcAt.dict_int {A : Around} {s : Shared} {l : Addr} {o : Obj} {es : Array DictEntry} {ep : Nat} (b : Int) (u : Tok) (ho : s.heap.get? l = some o) (hx : o.ExactDict) (hd : o.data = .dict es ep) (hu : A.units < cLine) : RcAt A s (.ref l) (.int b u) false := fun prog w E Q h => by
  obtain ⟨cls, dd, data, sl⟩ := o
  obtain ⟨hc, _, _⟩ := hx
  simp only at hc hd
  subst hc hd
  exact rc_eq_decline_or (k := false) ⟨_, ho, rfl⟩ (typeIs_int s b u) (by decide) F.sub_int_dict F.slot_dict_eq F.slot_int_eq_refl
    (fun _ hq => call_meets F.slot_dict_eq ⟨_, ho, rfl⟩ F.entry_dict_eq (F.args_dict_eq_2 _ _) (dict_eq_declines_int l es ep dd sl b u) ⟨ho, hq⟩)
    (fun _ hq => call_meets F.slot_int_eq_refl (typeIs_int s b u) F.entry_int_eq (F.args_int_eq_2 _ _) (int_eq_declines_dict b u l (.type "dict") es ep dd sl) ⟨ho, hq⟩)
    (fun _ hq => wpAny_of_eq (rfl : isSame (.ref l) (.int b u) = pure false) hq) (.inr hu) h
end SeqAt
end PySem
namespace T
open PySem L2
def rEqDI : R2 := fun x y H Q => ∃ a kvs i, x = .ref a ∧ y = .int i ∧ H a = some (.dK kvs) ∧ Q (.bl false) H
theorem op_eqDI {X : Cx} (hu : X.A.units < cLine) : OpR X (compareOp .Eq) rEqDI := by
  intro pins s σ H x y v u Q I rx ry h
  obtain ⟨a, kvs, i, rfl, rfl, hH, q⟩ := h
  cases rx
  obtain ⟨t, rfl⟩ := ry
  obtain ⟨_, _, vs, _, o, es, ep, h1, h2, h3, _⟩ := (show ObjOk X.prog X.w H s.heap a (.dK kvs) from I.hok a _ hH)
  exact PySem.SeqAt.RcAt.dict_int i t h1 h2 h3 hu _ _ _ _ ⟨.bl false, H, I, rfl, q⟩
section
variable {K : Fg}
def oEqDI : O2 K where
  r := rEqDI
  w := fun x y ω Φ => match x, y with
    | .ref a, .int _ => ∃ kvs, ω a = some (.dk kvs) ∧ Φ (.bl false) ω
    | _, _ => False
  ok := fun z x y d e Q Φ h k r1 r2 q => by
    split at h
    · cases r1; cases r2
      obtain ⟨kvs, hc, h⟩ := h
      obtain ⟨_, ks, h1, _⟩ := k.cell _ _ hc
      exact ⟨_, ks, _, rfl, rfl, h1, q _ z _ k.to (.bl _) h⟩
    · exact h.elim
/-- ==, a dict beside a whole number too -/
def oEqX : O2 K := oEq.or oEqDI (fun x y ω Φ => (oEq : O2 K).w x y ω Φ ∨ (oEqDI : O2 K).w x y ω Φ) fun _ _ _ _ h => h
theorem op_oEqX {X : Cx} (hu : X.A.units + 64 < cLine) : OpR X (compareOp .Eq) (oEqX (K := X.K)).r := (op_oEq hu).or (op_eqDI (by omega))
/-! a tuple beside (), a list beside [] -/
def rEqE (K : Fg) : R2 := fun x y H Q => ∃ a b xs, x = .ref a ∧ y = .ref b ∧ ((SqT K H a xs ∧ SqT K H b []) ∨ (SqL K H a xs ∧ SqL K H b [])) ∧ Q (.bl xs.isEmpty) H
theorem op_eqE {X : Cx} (hu : X.A.units < cLine) : OpR X (compareOp .Eq) (rEqE X.K) := by
  intro pins s σ H x y v u Q I rx ry h
  obtain ⟨a, b, xs, rfl, rfl, h, q⟩ := h
  cases rx
  cases ry
  rcases h with ⟨ha, hb⟩ | ⟨ha, hb⟩
  · obtain ⟨its, rv, p, hz⟩ := I.tuple ha
    obtain ⟨its2, rv2, p2, hz2⟩ := I.tuple hb
    cases rv2
    have e := SeqAt.RcAt.tuples (A := X.A) (e := fun _ => true) (show s.heap.IsTuple a its.toArray from p) (show s.heap.IsTuple b ([] : List Value).toArray from p2) hu (fun j h1 h2 => absurd h2 (Nat.not_lt_zero _))
    refine e _ _ _ _ ⟨.bl xs.isEmpty, H, I, ?_, q⟩
    show Value.bool _ = Value.bool _
    cases rv <;> rfl
  · obtain ⟨its, rv, p, hz⟩ := I.list ha
    obtain ⟨its2, rv2, p2, hz2⟩ := I.list hb
    cases rv2
    cases rv with
    | nil =>
      have e := SeqAt.RcAt.lists (A := X.A) (e := fun _ => true) p.isList p2.isList rfl hu (fun j h1 h2 => absurd h2 (Nat.not_lt_zero _))
      exact e _ _ _ _ ⟨.bl true, H, I, rfl, q⟩
    | cons r1 r2 =>
      have e := SeqAt.RcAt.lists_lengths (A := X.A) p.isList p2.isList rfl hu
      exact e _ _ _ _ ⟨.bl false, H, I, rfl, q⟩
def oEqE : O2 K where
  r := rEqE K
  w := fun x y ω Φ => match y with
    | .tup [] => (match x with
      | .tup ds => Φ (.bl ds.isEmpty) ω
      | _ => False)
    | .lst [] => ∃ ds, lstOf ω x = some ds ∧ Φ (.bl ds.isEmpty) ω
    | _ => False
  ok := fun z x y d e Q Φ h k r1 r2 q => by
    split at h
    · split at h
      · obtain ⟨a, xs, rfl, ha, rx⟩ := rep_tup r1
        obtain ⟨b, ys, rfl, hb, ry⟩ := rep_tup r2
        cases ry
        refine ⟨a, b, xs, rfl, rfl, .inl ⟨k.fz.sqt ha, k.fz.sqt hb⟩, ?_⟩
        rw [rx.nil_iff]
        exact q _ z _ k.to (.bl _) h
      · exact h.elim
    · obtain ⟨ds, h1, h2⟩ := h
      obtain ⟨a, xs, rfl, ha, rx⟩ := lst_of k r1 h1
      obtain ⟨b, ys, rfl, hb, ry⟩ := rep_lst r2
      cases ry
      refine ⟨a, b, xs, rfl, rfl, .inr ⟨SqL.of ha, SqL.of (k.fz _ _ hb)⟩, ?_⟩
      rw [rx.nil_iff]
      exact q _ z _ k.to (.bl _) h2
    · exact h.elim
theorem op_oEqE {X : Cx} (hu : X.A.units + 64 < cLine) : OpR X (compareOp .Eq) (oEqE (K := X.K)).r := op_eqE (by omega)
end
end T

/-! The readings over data, one construct at a time: what `wp` goes through. -/
namespace T
open PySem L2
def SzW (n : Nat) (P : Prop) : Prop := n ≤ sizeLine ∧ P
theorem w_sz {n : Nat} {P : Prop} (h : n ≤ sizeLine) (q : P) : SzW n P := ⟨h, q⟩
def intW (d : D) (F : Int → Prop) : Prop := match d with
  | .int i => F i
  | _ => False
theorem w_it {i : Int} {F : Int → Prop} (q : F i) : intW (.int i) F := q
def rg1W (xs : List D) (F : Int → Prop) : Prop := match xs with
  | [.int j] => (-(2 ^ 62) ≤ j ∧ j < 2 ^ 62) ∧ F j
  | _ => False
def rg2W (xs : List D) (F : Int → Int → Prop) : Prop := match xs with
  | [.int i, .int j] => (-(2 ^ 62) ≤ i ∧ i < 2 ^ 62 ∧ -(2 ^ 62) ≤ j ∧ j < 2 ^ 62) ∧ F i j
  | _ => False
theorem w_rg1 {j : Int} {F : Int → Prop} (h : -4611686018427387904 ≤ j ∧ j < 4611686018427387904) (q : F j) : rg1W [.int j] F := ⟨⟨by omega, by omega⟩, q⟩
theorem w_rg2 {i j : Int} {F : Int → Int → Prop} (h : (-4611686018427387904 ≤ i ∧ i < 4611686018427387904) ∧ -4611686018427387904 ≤ j ∧ j < 4611686018427387904) (q : F i j) : rg2W [.int i, .int j] F := ⟨⟨by omega, by omega, by omega, by omega⟩, q⟩
theorem rngD_get {lo : Int} {n i : Nat} {d : D} (h : (rngD lo n)[i]? = some d) : i < n ∧ d = .int (lo + (i : Nat)) := by
  have hi : i < n := by
    have := (List.getElem?_eq_some_iff.mp h).1
    simpa [rngD] using this
  refine ⟨hi, ?_⟩
  simp [rngD, hi] at h
  exact h.symm
theorem rngD_len (lo : Int) (n : Nat) : (rngD lo n).length = n := by simp [rngD]
section
variable {K : Fg} {ρ : En} {ω : Om} {Φ : D → Om → Prop} {Ψ : Exn → Om → Prop} {Ft : Bool → Om → Prop} {Fa : List D → Om → Prop} {Fo : Option Int → Om → Prop} {A B C : BE K} {As : BA K} {S S2 : BS K} {T1 T2 : BT K} {G : BG K} {k : KD} {d e : D} {i j : Int} {s t : List Nat} {x y : Bool} {n : Nat}
theorem w_var {i : Nat} (h : ρ[i]? = some (some d)) (q : Φ d ω) : (bVar i : BE K).w ρ ω Φ Ψ := by
  show (match ρ[i]? with | some (some d) => Φ d ω | _ => False)
  rw [h]; exact q
theorem w_con {v : V} {hr : ∀ H, Rep K H v d} (q : Φ d ω) : (bCon v d hr : BE K).w ρ ω Φ Ψ := q
theorem w_lit {x : Str} {l : List Nat} {h : cs x = l} (q : Φ (.str l) ω) : (bLit x l h : BE K).w ρ ω Φ Ψ := q
theorem w_int (q : Φ (.int i) ω) : (bInt i : BE K).w ρ ω Φ Ψ := q
theorem w_op {o : O2 K} (q : A.w ρ ω (fun x ω1 => B.w ρ ω1 (fun y ω2 => o.w x y ω2 Φ) Ψ) Ψ) : (bOp o A B).w ρ ω Φ Ψ := q
theorem w_add (q : Φ (.int (i + j)) ω) : (oAdd : O2 K).w (.int i) (.int j) ω Φ := q
theorem w_addS (h : s.length + t.length ≤ sizeLine) (q : Φ (.str (s ++ t)) ω) : (oAdd : O2 K).w (.str s) (.str t) ω Φ := ⟨h, q⟩
theorem w_addT {ds es : List D} (h : ds.length + es.length ≤ sizeLine) (q : Φ (.tup (ds ++ es)) ω) : (oAdd : O2 K).w (.tup ds) (.tup es) ω Φ := ⟨h, q⟩
theorem w_addL {ds es : List D} (h : ds.length + es.length ≤ sizeLine) (q : Φ (.lst (ds ++ es)) ω) : (oAdd : O2 K).w (.lst ds) (.lst es) ω Φ := ⟨ds, es, rfl, rfl, h, q⟩
theorem w_sub (q : Φ (.int (i - j)) ω) : (oSub : O2 K).w (.int i) (.int j) ω Φ := q
theorem w_mul (h : (-18446744073709551616 < i ∧ i < 18446744073709551616) ∨ (-18446744073709551616 < j ∧ j < 18446744073709551616)) (q : Φ (.int (i * j)) ω) : (oMul : O2 K).w (.int i) (.int j) ω Φ := ⟨.inl (by unfold CMul; omega), q⟩
theorem w_mulS (h1 : i ≤ 100000) (h2 : -100000 ≤ i) (h3 : s.length ≤ 100) (q : Φ (.str (List.replicate i.toNat s).flatten) ω) : (oMul : O2 K).w (.str s) (.int i) ω Φ := ⟨h1, h2, h3, q⟩
theorem w_div (h : 0 < j ∧ j < 1073741824) (q : Φ (.int (i / j)) ω) : (oDiv : O2 K).w (.int i) (.int j) ω Φ := ⟨⟨h.1, .inl h.2⟩, q⟩
theorem w_divW (h : 0 < j) (h2 : j.natAbs.log2 < 9000) (q : Φ (.int (i / j)) ω) : (oDiv : O2 K).w (.int i) (.int j) ω Φ := ⟨⟨h, .inr h2⟩, q⟩
theorem w_mod (h : 0 < j) (q : Φ (.int (i % j)) ω) : (oMod : O2 K).w (.int i) (.int j) ω Φ := ⟨h, q⟩
theorem w_pow (h : 0 ≤ j ∧ j ≤ 1000000 ∧ i.natAbs < 2 ^ 64) (q : Φ (.int (i ^ j.toNat)) ω) : (oPow : O2 K).w (.int i) (.int j) ω Φ := ⟨h, q⟩
theorem w_neg (q : A.w ρ ω (fun x ω1 => intW x fun i => Φ (.int (-i)) ω1) Ψ) : (bNeg A).w ρ ω Φ Ψ := q
theorem w_lt (q : Φ (.bl (decide (i < j))) ω) : (oLt : O2 K).w (.int i) (.int j) ω Φ := q
theorem w_le (q : Φ (.bl (decide (i ≤ j))) ω) : (oLe : O2 K).w (.int i) (.int j) ω Φ := q
theorem w_gt (q : Φ (.bl (decide (j < i))) ω) : (oGt : O2 K).w (.int i) (.int j) ω Φ := q
theorem w_ge (q : Φ (.bl (decide (j ≤ i))) ω) : (oGe : O2 K).w (.int i) (.int j) ω Φ := q
theorem w_ltS (q : Φ (.bl (ltS s t)) ω) : (oLt : O2 K).w (.str s) (.str t) ω Φ := q
theorem w_leS (q : Φ (.bl (!ltS t s)) ω) : (oLe : O2 K).w (.str s) (.str t) ω Φ := q
theorem w_gtS (q : Φ (.bl (ltS t s)) ω) : (oGt : O2 K).w (.str s) (.str t) ω Φ := q
theorem w_geS (q : Φ (.bl (!ltS s t)) ω) : (oGe : O2 K).w (.str s) (.str t) ω Φ := q
theorem w_eqI (q : Φ (.bl (decide (i = j))) ω) : (oEq : O2 K).w (.int i) (.int j) ω Φ := q
theorem w_eqS (q : Φ (.bl (decide (s = t))) ω) : (oEq : O2 K).w (.str s) (.str t) ω Φ := q
theorem w_eqB (q : Φ (.bl (decide (x = y))) ω) : (oEq : O2 K).w (.bl x) (.bl y) ω Φ := q
theorem w_neI (q : Φ (.bl (!decide (i = j))) ω) : (oNe : O2 K).w (.int i) (.int j) ω Φ := q
theorem w_neS (q : Φ (.bl (!decide (s = t))) ω) : (oNe : O2 K).w (.str s) (.str t) ω Φ := q
theorem w_neB (q : Φ (.bl (!decide (x = y))) ω) : (oNe : O2 K).w (.bl x) (.bl y) ω Φ := q
theorem w_eqN (q : Φ (.bl true) ω) : (oEq : O2 K).w .non .non ω Φ := q
theorem w_neN (q : Φ (.bl false) ω) : (oNe : O2 K).w .non .non ω Φ := q
theorem w_eqIN (q : Φ (.bl false) ω) : (oEq : O2 K).w (.int i) .non ω Φ := q
theorem w_eqNI (q : Φ (.bl false) ω) : (oEq : O2 K).w .non (.int i) ω Φ := q
theorem w_eqSN (q : Φ (.bl false) ω) : (oEq : O2 K).w (.str s) .non ω Φ := q
theorem w_eqNS (q : Φ (.bl false) ω) : (oEq : O2 K).w .non (.str s) ω Φ := q
theorem w_eqD {p' q' : PyData} (h1 : pyF 3 ω d = some p') (h2 : pyF 3 ω e = some q') (h3 : SeqAt.shaped p' = true) (h4 : SeqAt.shaped q' = true) (q : Φ (.bl (PyData.eqv p' q')) ω) : eqDW false d e ω Φ := ⟨p', q', h1, h2, h3, h4, q⟩
theorem w_neD {p' q' : PyData} (h1 : pyF 3 ω d = some p') (h2 : pyF 3 ω e = some q') (h3 : SeqAt.shaped p' = true) (h4 : SeqAt.shaped q' = true) (q : Φ (.bl (!PyData.eqv p' q')) ω) : eqDW true d e ω Φ := ⟨p', q', h1, h2, h3, h4, q⟩
theorem w_isB (q : Φ (.bl (decide (x = y))) ω) : (oIs false : O2 K).w (.bl x) (.bl y) ω Φ := q
theorem w_isNB (q : Φ (.bl (!decide (x = y))) ω) : (oIs true : O2 K).w (.bl x) (.bl y) ω Φ := q
theorem w_isT (q : Φ (.bl x) ω) : (oIs false : O2 K).w (.bl x) (.bl true) ω Φ := by cases x <;> exact q
theorem w_isF (q : Φ (.bl (!x)) ω) : (oIs false : O2 K).w (.bl x) (.bl false) ω Φ := by cases x <;> exact q
theorem w_isNT (q : Φ (.bl (!x)) ω) : (oIs true : O2 K).w (.bl x) (.bl true) ω Φ := by cases x <;> exact q
theorem w_isNF (q : Φ (.bl x) ω) : (oIs true : O2 K).w (.bl x) (.bl false) ω Φ := by cases x <;> exact q
theorem w_isN (q : Φ (.bl (decide (d matches .non))) ω) : (oIs false : O2 K).w d .non ω Φ := by cases d <;> exact q
theorem w_isNN (q : Φ (.bl (!decide (d matches .non))) ω) : (oIs true : O2 K).w d .non ω Φ := by cases d <;> exact q
theorem w_ixS (h : s.length ≤ sizeLine) {c : Nat} (h2 : atI s i = some c) (q : Φ (.str [c]) ω) : (oIx : O2 K).w (.str s) (.int i) ω Φ := ⟨h, c, h2, q⟩
theorem w_ixT {ds : List D} (h2 : atI ds i = some d) (q : Φ d ω) : (oIx : O2 K).w (.tup ds) (.int i) ω Φ := ⟨d, h2, q⟩
theorem w_ixL {ds : List D} (h2 : atI ds i = some d) (q : Φ d ω) : (oIx : O2 K).w (.lst ds) (.int i) ω Φ := ⟨ds, d, rfl, h2, q⟩
theorem w_ixR {a : Addr} {ds : List D} (h : ω a = some (.lst ds)) (h2 : atI ds i = some d) (q : Φ d ω) : (oIx : O2 K).w (.ref a) (.int i) ω Φ := ⟨ds, d, by show (match ω a with | some (.lst ds) => some ds | _ => none) = some ds; rw [h], h2, q⟩
theorem w_ixC {ns : List Int} (h2 : atI ns i = some j) (q : Φ (.int j) ω) : (oIx : O2 K).w (.scr ns) (.int i) ω Φ := ⟨j, h2, q⟩
theorem w_sl {own : Bool} {L U : BO K} (q : A.w ρ ω (fun x ω1 => L.w ρ ω1 (fun i ω2 => U.w ρ ω2 (fun j ω3 => (oSl own : O3 K).w x i j ω3 Φ) Ψ) Ψ) Ψ) : (bSl (oSl own) A L U).w ρ ω Φ Ψ := q
theorem w_oN (q : Fo none ω) : (boN : BO K).w ρ ω Fo Ψ := q
theorem w_oS (q : A.w ρ ω (fun x ω1 => intW x fun i => Fo (some i) ω1) Ψ) : (boS A).w ρ ω Fo Ψ := q
theorem w_slS {own : Bool} {lo hi : Option Int} (h : s.length ≤ sizeLine) (q : Φ (.str (cut s lo hi)) ω) : (oSl own : O3 K).w (.str s) lo hi ω Φ := ⟨h, q⟩
theorem w_slT {own : Bool} {ds : List D} {lo hi : Option Int} (q : Φ (.tup (cut ds lo hi)) ω) : (oSl own : O3 K).w (.tup ds) lo hi ω Φ := q
theorem w_slL {ds : List D} {lo hi : Option Int} (q : Φ (.lst (cut ds lo hi)) ω) : (oSl false : O3 K).w (.lst ds) lo hi ω Φ := ⟨ds, rfl, q⟩
theorem w_in {c : Nat} (q : Φ (.bl (decide (c ∈ t))) ω) : (oIn false : O2 K).w (.str [c]) (.str t) ω Φ := ⟨c, rfl, q⟩
theorem w_nin {c : Nat} (q : Φ (.bl (!decide (c ∈ t))) ω) : (oIn true : O2 K).w (.str [c]) (.str t) ω Φ := ⟨c, rfl, q⟩
theorem w_baN (q : Fa [] ω) : (baN : BA K).w ρ ω Fa Ψ := q
theorem w_baC (q : A.w ρ ω (fun x ω1 => As.w ρ ω1 (fun xs ω2 => Fa (x :: xs) ω2) Ψ) Ψ) : (baC A As).w ρ ω Fa Ψ := q
theorem w_tup (q : As.w ρ ω (fun xs ω1 => SzW xs.length (Φ (.tup xs) ω1)) Ψ) : (bTup As).w ρ ω Φ Ψ := q
theorem w_lst (q : As.w ρ ω (fun xs ω1 => SzW xs.length (Φ (.lst xs) ω1)) Ψ) : (bLst false As).w ρ ω Φ Ψ := q
theorem w_lstO (q : As.w ρ ω (fun xs ω1 => SzW xs.length (∀ a, ω1 a = none → Φ (.ref a) (ω1.set a (.lst xs)))) Ψ) : (bLst true As).w ρ ω Φ Ψ := q
theorem w_tru (q : A.w ρ ω (fun x ω1 => truW x ω1 Ft) Ψ) : (btTru A).w ρ ω Ft Ψ := q
theorem w_truB (q : Ft x ω) : truW (.bl x) ω Ft := q
theorem w_truN (q : Ft false ω) : truW .non ω Ft := q
theorem w_truI (q : Ft (i != 0) ω) : truW (.int i) ω Ft := q
theorem w_truS (h : s.length ≤ sizeLine) (q : Ft (!s.isEmpty) ω) : truW (.str s) ω Ft := ⟨h, q⟩
theorem w_truT {ds : List D} (q : Ft (!ds.isEmpty) ω) : truW (.tup ds) ω Ft := q
theorem w_truL {ds : List D} (q : Ft (!ds.isEmpty) ω) : truW (.lst ds) ω Ft := q
theorem w_tC (q : A.w ρ ω (fun x ω1 => blW x fun b => Ft b ω1) Ψ) : (btC A).w ρ ω Ft Ψ := q
theorem w_tB (q : A.w ρ ω (fun x ω1 => blW x fun b => Ft b ω1) Ψ) : (btB A).w ρ ω Ft Ψ := q
theorem w_tand (q : T1.w ρ ω (fun c ω1 => if c = true then T2.w ρ ω1 Ft Ψ else Ft false ω1) Ψ) : (btAnd T1 T2).w ρ ω Ft Ψ := q
theorem w_tor (q : T1.w ρ ω (fun c ω1 => if c = true then Ft true ω1 else T2.w ρ ω1 Ft Ψ) Ψ) : (btOr T1 T2).w ρ ω Ft Ψ := q
theorem w_tnot (q : T1.w ρ ω (fun c ω1 => Ft (!c) ω1) Ψ) : (btNot T1).w ρ ω Ft Ψ := q
theorem w_yes (q : Ft true ω) : (btYes : BT K).w ρ ω Ft Ψ := q
theorem w_and (q : A.w ρ ω (fun x ω1 => truW x ω1 fun c ω2 => if c = true then B.w ρ ω2 Φ Ψ else Φ x ω2) Ψ) : (bAndT A B).w ρ ω Φ Ψ := q
theorem w_or (q : A.w ρ ω (fun x ω1 => truW x ω1 fun c ω2 => if c = true then Φ x ω2 else B.w ρ ω2 Φ Ψ) Ψ) : (bOrT A B).w ρ ω Φ Ψ := q
theorem w_not (q : A.w ρ ω (fun x ω1 => truW x ω1 fun c ω2 => Φ (.bl (!c)) ω2) Ψ) : (bNotT A).w ρ ω Φ Ψ := q
theorem w_if (q : T1.w ρ ω (fun x ω1 => if x = true then A.w ρ ω1 Φ Ψ else B.w ρ ω1 Φ Ψ) Ψ) : (bIf T1 A B).w ρ ω Φ Ψ := q
theorem w_chain {o p : O2 K} (q : A.w ρ ω (fun x ω1 => B.w ρ ω1 (fun y ω2 => o.w x y ω2 fun r ω3 => blW r fun k => if k = true then C.w ρ ω3 (fun z ω4 => p.w y z ω4 Φ) Ψ else Φ (.bl false) ω3) Ψ) Ψ) : (bChain o p A B C).w ρ ω Φ Ψ := q
theorem w_bl {F : Bool → Prop} (q : F x) : blW (.bl x) F := q
theorem w_cb {c : CB K} (q : As.w ρ ω (fun xs ω1 => c.w xs ω1 Φ) Ψ) : (bCB c As).w ρ ω Φ Ψ := q
theorem w_lenS (h : s.length ≤ sizeLine) (q : Φ (.int s.length) ω) : (cLen : CB K).w [.str s] ω Φ := ⟨h, q⟩
theorem w_lenT {ds : List D} (q : Φ (.int ds.length) ω) : (cLen : CB K).w [.tup ds] ω Φ := q
theorem w_lenL {ds : List D} (q : Φ (.int ds.length) ω) : (cLen : CB K).w [.lst ds] ω Φ := q
theorem w_lenC {ns : List Int} (q : Φ (.int ns.length) ω) : (cLen : CB K).w [.scr ns] ω Φ := q
theorem w_lenR {a : Addr} {ds : List D} (h : ω a = some (.lst ds)) (q : Φ (.int ds.length) ω) : (cLen : CB K).w [.ref a] ω Φ := ⟨ds, h, q⟩
theorem w_max (q : Φ (.int (max i j)) ω) : (cMax2 : CB K).w [.int i, .int j] ω Φ := q
theorem w_min (q : Φ (.int (min i j)) ω) : (cMin2 : CB K).w [.int i, .int j] ω Φ := q
theorem w_all {bs : List Bool} (q : Φ (.bl (bs.all id)) ω) : (cAll : CB K).w [.lst (bs.map .bl)] ω Φ := ⟨_, _, bs, rfl, rfl, blsOf_map bs, q⟩
theorem w_isi {U : String} {hU} (q : A.w ρ ω (fun x ω1 => isW1 U x ω1 Φ) Ψ) : (bIsi U hU A).w ρ ω Φ Ψ := q
theorem w_isW {U Ty : String} (h : tyD ω d = some Ty) (q : Φ (.bl (isT Ty U)) ω) : isW1 U d ω Φ := by unfold isW1; rw [h]; exact q
theorem w_call {W : WP} {vs : List V} {ds : List D} {hd} (q : As.w ρ ω (fun xs ω1 => W (xs ++ ds) ω1 Φ) Ψ) : (bCall W vs ds hd As).w ρ ω Φ Ψ := q
theorem w_frz (q : A.w ρ ω (fun d ω1 => match d with
    | .ref a => (match ω1 a with
      | some (.lst ds) => Φ (.lst ds) (ω1.del a)
      | _ => Φ (.ref a) ω1)
    | d => Φ d ω1) Ψ) : (bFrz A).w ρ ω Φ Ψ := q
/-! statements -/
section
variable {nx bk ct : En → Om → Prop} {rt : D → Om → Prop} {xc : Exn → En → Om → Prop}
theorem w_next (q : nx ρ ω) : (bsNext : BS K).w ρ ω ⟨nx, rt, bk, ct, xc⟩ := q
theorem w_break (q : bk ρ ω) : (bsBreak : BS K).w ρ ω ⟨nx, rt, bk, ct, xc⟩ := q
theorem w_cont (q : ct ρ ω) : (bsCont : BS K).w ρ ω ⟨nx, rt, bk, ct, xc⟩ := q
theorem w_seq (q : S.w ρ ω ⟨fun ρ1 ω1 => S2.w ρ1 ω1 ⟨nx, rt, bk, ct, xc⟩, rt, bk, ct, xc⟩) : (bsSeq S S2).w ρ ω ⟨nx, rt, bk, ct, xc⟩ := q
/-- a statement, then what follows, shown once from Mid -/
theorem w_cut (Mid : En → Om → Prop) (h1 : ∀ N : En → Om → Prop, (∀ ρ1 ω1, Mid ρ1 ω1 → N ρ1 ω1) → S.w ρ ω ⟨N, rt, bk, ct, xc⟩) (h2 : ∀ ρ1 ω1, Mid ρ1 ω1 → S2.w ρ1 ω1 ⟨nx, rt, bk, ct, xc⟩) : (bsSeq S S2).w ρ ω ⟨nx, rt, bk, ct, xc⟩ := h1 _ h2
theorem w_asg (q : A.w ρ ω (fun d ω1 => G.w d ρ ω1 nx) fun x ω1 => xc x ρ ω1) : (bsAsg A G).w ρ ω ⟨nx, rt, bk, ct, xc⟩ := q
theorem w_gN {i : Nat} {F : En → Om → Prop} (q : F (ρ.set i (some d)) ω) : (bgN i : BG K).w d ρ ω F := q
theorem w_gT {n : Nat} {gs : BGs K} {F : En → Om → Prop} {ds : List D} (h : ds.length = n) (q : gs.w ds ρ ω F) : (bgT n gs).w (.tup ds) ρ ω F := ⟨h, q⟩
theorem w_gsN {F : En → Om → Prop} (q : F ρ ω) : (bgsN : BGs K).w [] ρ ω F := q
theorem w_gsC {gs : BGs K} {F : En → Om → Prop} {ds : List D} (q : G.w d ρ ω fun ρ1 ω1 => gs.w ds ρ1 ω1 F) : (bgsC G gs).w (d :: ds) ρ ω F := q
theorem w_drop (q : A.w ρ ω (fun _ ω1 => nx ρ ω1) fun x ω1 => xc x ρ ω1) : (bsDrop A).w ρ ω ⟨nx, rt, bk, ct, xc⟩ := q
theorem w_ret (q : A.w ρ ω rt fun x ω1 => xc x ρ ω1) : (bsRet A).w ρ ω ⟨nx, rt, bk, ct, xc⟩ := q
theorem w_retN (q : rt .non ω) : (bsRetN : BS K).w ρ ω ⟨nx, rt, bk, ct, xc⟩ := q
theorem w_sif (q : T1.w ρ ω (fun x ω1 => if x = true then S.w ρ ω1 ⟨nx, rt, bk, ct, xc⟩ else S2.w ρ ω1 ⟨nx, rt, bk, ct, xc⟩) fun x ω1 => xc x ρ ω1) : (bsIf T1 S S2).w ρ ω ⟨nx, rt, bk, ct, xc⟩ := q
/-- a test whose answer is known -/
theorem w_sifB (c : Bool) (h : ∀ F : Bool → Om → Prop, F c ω → T1.w ρ ω F fun x ω1 => xc x ρ ω1) (q : if c = true then S.w ρ ω ⟨nx, rt, bk, ct, xc⟩ else S2.w ρ ω ⟨nx, rt, bk, ct, xc⟩) : (bsIf T1 S S2).w ρ ω ⟨nx, rt, bk, ct, xc⟩ := h _ q
theorem w_for {I : BI K} (q : I.w ρ ω (fun ds chk ω1 => forGo chk G S ⟨nx, rt, bk, ct, xc⟩ ds ρ ω1) fun x ω1 => xc x ρ ω1) : (bsFor I G S).w ρ ω ⟨nx, rt, bk, ct, xc⟩ := q
theorem w_aug {i : Nat} {o : O2 K} (h : ρ[i]? = some (some d)) (q : A.w ρ ω (fun y ω1 => o.w d y ω1 fun v ω2 => nx (ρ.set i (some v)) ω2) fun x ω1 => xc x ρ ω1) : (bsAug i A o).w ρ ω ⟨nx, rt, bk, ct, xc⟩ := by
  show (match ρ[i]? with | some (some d) => A.w ρ ω (fun y ω1 => o.w d y ω1 fun v ω2 => nx (ρ.set i (some v)) ω2) fun x ω1 => xc x ρ ω1 | _ => False)
  rw [h]; exact q
end
theorem w_seqI {Fi : List D → (Om → Prop) → Om → Prop} (q : A.w ρ ω (fun x ω1 => itemsW x ω1 Fi) Ψ) : (biSeq A).w ρ ω Fi Ψ := q
theorem w_itL {Fi : List D → (Om → Prop) → Om → Prop} {ds : List D} (q : Fi ds (fun _ => True) ω) : itemsW (.lst ds) ω Fi := q
theorem w_itT {Fi : List D → (Om → Prop) → Om → Prop} {ds : List D} (q : Fi ds (fun _ => True) ω) : itemsW (.tup ds) ω Fi := q
theorem w_itC {Fi : List D → (Om → Prop) → Om → Prop} {ns : List Int} (q : Fi (ns.map .int) (fun _ => True) ω) : itemsW (.scr ns) ω Fi := q
theorem w_itS {Fi : List D → (Om → Prop) → Om → Prop} (q : Fi (s.map fun c => .str [c]) (fun _ => True) ω) : itemsW (.str s) ω Fi := q
theorem w_r1 {Fi : List D → (Om → Prop) → Om → Prop} (q : As.w ρ ω (fun xs ω1 => rg1W xs fun j => Fi (rngD 0 j.toNat) (fun _ => True) ω1) Ψ) : (biRng1 As).w ρ ω Fi Ψ := q
theorem w_r2 {Fi : List D → (Om → Prop) → Om → Prop} (q : As.w ρ ω (fun xs ω1 => rg2W xs fun i j => Fi (rngD i (j - i).toNat) (fun _ => True) ω1) Ψ) : (biRng2 As).w ρ ω Fi Ψ := q
theorem w_dk (q : ∀ a, ω a = none → Φ (.ref a) (ω.set a (.dk []))) : (bDnewK : BE K).w ρ ω Φ Ψ := q
theorem w_dt (q : ∀ a, ω a = none → Φ (.ref a) (ω.set a (.dt []))) : (bDnewT : BE K).w ρ ω Φ Ψ := q
theorem w_lc {I : BI K} {vs : List Nat} {hm ho} (q : I.w ρ ω (fun ds chk ω1 => lcGo chk G T1 A (wipeD ρ vs) (fun out ω2 => Φ (.lst out) ω2) ds [] ω1) Ψ) : (bLc false I G T1 A vs hm ho).w ρ ω Φ Ψ := q
theorem w_lcO {I : BI K} {vs : List Nat} {hm ho} (q : I.w ρ ω (fun ds chk ω1 => lcGo chk G T1 A (wipeD ρ vs) (fun out ω2 => ∀ a, ω2 a = none → Φ (.ref a) (ω2.set a (.lst out))) ds [] ω1) Ψ) : (bLc true I G T1 A vs hm ho).w ρ ω Φ Ψ := q
theorem w_ite {c : Bool} {P Q : Prop} (h1 : c = true → P) (h2 : c = false → Q) : if c = true then P else Q := by
  cases c with
  | true => exact iteT (h1 rfl)
  | false => exact iteF (h2 rfl)
/-- a comprehension with one name, no test -/
theorem lc_map1 {chk : Om → Prop} {F : List D → Om → Prop} {i : Nat} (f : D → D) : ∀ (ds acc : List D), acc.length + ds.length ≤ sizeLine → chk ω → (∀ d ∈ ds, ∀ Q : D → Om → Prop, Q (f d) ω → A.w (ρ.set i (some d)) ω Q X0) → F (acc ++ ds.map f) ω → lcGo chk (bgN i : BG K) btYes A ρ F ds acc ω
  | [], acc, _, hc, _, h => ⟨hc, by simpa using h⟩
  | d :: ds, acc, hz, hc, hd, h => by
    refine ⟨hc, ?_⟩
    show (if true = true then A.w (ρ.set i (some d)) ω (fun y ω3 => acc.length < sizeLine ∧ lcGo chk (bgN i) btYes A ρ F ds (acc ++ [y]) ω3) X0 else lcGo chk (bgN i) btYes A ρ F ds acc ω)
    rw [if_pos rfl]
    refine hd d List.mem_cons_self _ ⟨by simp at hz; omega, ?_⟩
    exact lc_map1 f ds (acc ++ [f d]) (by simp at hz ⊢; omega) hc (fun e he => hd e (List.mem_cons_of_mem _ he)) (by simpa using h)
/-- .. with a test -/
theorem lc_filter1 {chk : Om → Prop} {F : List D → Om → Prop} {i : Nat} (p : D → Bool) (f : D → D) : ∀ (ds acc : List D), acc.length + ds.length ≤ sizeLine → chk ω → (∀ d ∈ ds, ∀ Q : Bool → Om → Prop, Q (p d) ω → T1.w (ρ.set i (some d)) ω Q X0) → (∀ d ∈ ds, p d = true → ∀ Q : D → Om → Prop, Q (f d) ω → A.w (ρ.set i (some d)) ω Q X0) →
    F (acc ++ (ds.filter p).map f) ω → lcGo chk (bgN i : BG K) T1 A ρ F ds acc ω
  | [], acc, _, hc, _, _, h => ⟨hc, by simpa using h⟩
  | d :: ds, acc, hz, hc, ht, hd, h => by
    refine ⟨hc, ?_⟩
    refine ht d List.mem_cons_self _ ?_
    have hz' : acc.length + ds.length ≤ sizeLine := by simp at hz; omega
    cases e : p d with
    | true =>
      rw [if_pos rfl]
      refine hd d List.mem_cons_self e _ ⟨by simp at hz; omega, ?_⟩
      exact lc_filter1 p f ds (acc ++ [f d]) (by simp at hz ⊢; omega) hc (fun e he => ht e (List.mem_cons_of_mem _ he)) (fun e he => hd e (List.mem_cons_of_mem _ he)) (by simpa [List.filter_cons, e] using h)
    | false =>
      rw [if_neg Bool.false_ne_true]
      exact lc_filter1 p f ds acc hz' hc (fun e he => ht e (List.mem_cons_of_mem _ he)) (fun e he => hd e (List.mem_cons_of_mem _ he)) (by simpa [List.filter_cons, e] using h)
/-- a for by a word of the turn; N: what the turn is to reach -/
theorem for_go {chk : Om → Prop} (J : Nat → En → Om → Prop) {ds : List D}
    (hs : ∀ (i : Nat) (d : D) (ρ1 : En) (ω1 : Om) (N : En → Om → Prop), ds[i]? = some d → J i ρ1 ω1 → (∀ ρ2 ω2, J (i + 1) ρ2 ω2 → N ρ2 ω2) → chk ω1 ∧ G.w d ρ1 ω1 fun ρ2 ω2 => S.w ρ2 ω2 ⟨N, k.rt, k.nx, N, k.xc⟩)
    (he : ∀ ρ1 ω1, J ds.length ρ1 ω1 → chk ω1 ∧ k.nx ρ1 ω1) (h0 : J 0 ρ ω) : forGo chk G S k ds ρ ω := by
  have key : ∀ (m i : Nat) (ρ1 : En) (ω1 : Om), i + m = ds.length → J i ρ1 ω1 → forGo chk G S k (ds.drop i) ρ1 ω1 := by
    intro m
    induction m with
    | zero =>
      intro i ρ1 ω1 e h
      have e : i = ds.length := by omega
      subst e
      rw [List.drop_length]
      exact he ρ1 ω1 h
    | succ m ih =>
      intro i ρ1 ω1 e h
      have hi : i < ds.length := by omega
      rw [List.drop_eq_getElem_cons hi]
      exact hs i _ ρ1 ω1 _ (List.getElem?_eq_getElem hi) h fun ρ2 ω2 h2 => ih (i + 1) ρ2 ω2 (by omega) h2
  have := key ds.length 0 ρ ω (by omega) h0
  simpa using this
theorem w_while {c : BT K} (V : Nat → En → Om → Prop) (m : Nat) (h0 : V m ρ ω)
    (hs : ∀ (m : Nat) (ρ : En) (ω : Om) (N : En → Om → Prop), V m ρ ω → (∀ m' ρ2 ω2, m' < m → V m' ρ2 ω2 → N ρ2 ω2) → c.w ρ ω (fun x ω1 => if x = true then S.w ρ ω1 ⟨N, k.rt, k.nx, N, k.xc⟩ else k.nx ρ ω1) fun x ω1 => k.xc x ρ ω1) : (bsWhile c S).w ρ ω k :=
  ⟨V, ⟨m, h0⟩, fun m ρ ω h => hs m ρ ω _ h fun m' ρ2 ω2 lt h2 => ⟨m', lt, h2⟩⟩
end
theorem iteNT {P Q : Prop} (h : Q) : if (!true) = true then P else Q := by rw [if_neg (by decide)]; exact h
theorem iteNF {P Q : Prop} (h : P) : if (!false) = true then P else Q := by rw [if_pos (by decide)]; exact h
theorem cut_to {α : Type} (t : List α) {k : Int} (h : 0 ≤ k) : cut t none (some k) = t.take k.toNat := by
  obtain ⟨n, rfl⟩ : ∃ n : Nat, k = n := ⟨k.toNat, by omega⟩
  unfold cut
  rw [HT.sIx_nat, HT.sIx_none, List.drop_zero, Nat.sub_zero, Int.toNat_natCast]
  by_cases c : n ≤ t.length
  · rw [Nat.min_eq_left c]
  · rw [Nat.min_eq_right (by omega), List.take_length, List.take_of_length_le (by omega)]
theorem cut_from {α : Type} (t : List α) {k : Int} (h : 0 ≤ k) : cut t (some k) none = t.drop k.toNat := by
  obtain ⟨n, rfl⟩ : ∃ n : Nat, k = n := ⟨k.toNat, by omega⟩
  unfold cut
  rw [HT.sIx_nat, HT.sIx_none, Int.toNat_natCast]
  by_cases c : n ≤ t.length
  · rw [Nat.min_eq_left c, List.take_of_length_le (by rw [List.length_drop]; exact Nat.le_refl _)]
  · rw [Nat.min_eq_right (by omega), List.drop_length, List.drop_of_length_le (by omega)]; simp
theorem cut_mid {α : Type} (t : List α) {i j : Int} (h : 0 ≤ i) (h2 : 0 ≤ j) : cut t (some i) (some j) = (t.drop i.toNat).take (j.toNat - i.toNat) := by
  obtain ⟨n, rfl⟩ : ∃ n : Nat, i = n := ⟨i.toNat, by omega⟩
  obtain ⟨m, rfl⟩ : ∃ m : Nat, j = m := ⟨j.toNat, by omega⟩
  unfold cut
  rw [HT.sIx_nat, HT.sIx_nat, Int.toNat_natCast, Int.toNat_natCast]
  by_cases c : n ≤ t.length
  · rw [Nat.min_eq_left c]
    by_cases d : m ≤ t.length
    · rw [Nat.min_eq_left d]
    · rw [Nat.min_eq_right (by omega), List.take_of_length_le (by rw [List.length_drop]; exact Nat.le_refl _), List.take_of_length_le (by rw [List.length_drop]; omega)]
  · rw [Nat.min_eq_right (show t.length ≤ n by omega), List.drop_length, List.drop_of_length_le (show t.length ≤ n by omega)]; simp
theorem all_rep {α : Type} (p : α → Bool) (x : α) (h : p x = true) (n : Nat) : (List.replicate n x).all p = true := by
  rw [List.all_eq_true]
  intro y hy
  rw [List.eq_of_mem_replicate hy]; exact h
end T

/-! The readings over data as equations: what a simp goes through. -/
namespace T
open PySem L2
/-- what is there -/
def optW {α : Type} (o : Option α) (F : α → Prop) : Prop := match o with
  | some a => F a
  | none => False
theorem x_optS {α : Type} {a : α} {F : α → Prop} : optW (some a) F = F a := rfl
theorem x_optN {α : Type} {F : α → Prop} : optW (none : Option α) F = False := rfl
def cL (o : Option Cell) (F : List D → Prop) : Prop := match o with
  | some (.lst ds) => F ds
  | _ => False
theorem x_cL {ds : List D} {F : List D → Prop} : cL (some (.lst ds)) F = F ds := rfl
def cI (o : Option Cell) (F : Str → List (Str × D) → Prop) : Prop := match o with
  | some (.ins c fs) => F c fs
  | _ => False
theorem x_cI {c : Str} {fs : List (Str × D)} {F : Str → List (Str × D) → Prop} : cI (some (.ins c fs)) F = F c fs := rfl
def cK (o : Option Cell) (F : List (Key × D) → Prop) : Prop := match o with
  | some (.dk kvs) => F kvs
  | _ => False
theorem x_cK {kvs : List (Key × D)} {F : List (Key × D) → Prop} : cK (some (.dk kvs)) F = F kvs := rfl
def varW (o : Option (Option D)) (F : D → Prop) : Prop := match o with
  | some (some d) => F d
  | _ => False
theorem lstOf_ref {ω : Om} {a : Addr} {ds : List D} : lstOf ω (.ref a) = some ds ↔ ω a = some (.lst ds) := by
  show (match ω a with | some (.lst ds) => some ds | _ => none) = some ds ↔ _
  cases e : ω a with
  | none => simp
  | some c => cases c <;> simp
theorem cL_iff {o : Option Cell} {F : List D → Prop} : cL o F ↔ ∃ ds, o = some (.lst ds) ∧ F ds := by
  unfold cL
  split
  · simp
  · rename_i h
    constructor
    · exact fun z => z.elim
    · rintro ⟨ds, rfl, _⟩
      exact absurd rfl (h ds)
theorem optW_iff {α : Type} {o : Option α} {F : α → Prop} : optW o F ↔ ∃ a, o = some a ∧ F a := by
  cases o <;> simp [optW]
/-! equality of data -/
mutual
def deq : D → D → Bool
  | .non, .non => true
  | .bl a, .bl b => a == b
  | .bl a, .int j => (if a then 1 else 0) == j
  | .int i, .bl b => i == (if b then 1 else 0)
  | .int i, .int j => i == j
  | .str x, .str y => x == y
  | .lst xs, .lst ys => deqL xs ys
  | .tup xs, .tup ys => deqL xs ys
  | _, _ => false
def deqL : List D → List D → Bool
  | [], [] => true
  | x :: xs, y :: ys => deq x y && deqL xs ys
  | _, _ => false
end
mutual
/-- data that may be compared -/
def eqD : D → Bool
  | .non => true
  | .bl _ => true
  | .int _ => true
  | .str s => s.all (· < 0x110000)
  | .tup ds => eqDL ds
  | .lst ds => eqDL ds
  | _ => false
def eqDL : List D → Bool
  | [] => true
  | d :: ds => eqD d && eqDL ds
end
mutual
def dpt : D → Nat
  | .tup ds => dptL ds + 1
  | .lst ds => dptL ds + 1
  | _ => 0
def dptL : List D → Nat
  | [] => 0
  | d :: ds => max (dpt d) (dptL ds)
end
mutual
def toPy : D → PyData
  | .non => .none
  | .bl b => .bool b
  | .int i => .int i
  | .str s => .str ⟨s.toArray⟩
  | .tup ds => .tuple (toPyL ds)
  | .lst ds => .list (toPyL ds)
  | _ => .none
def toPyL : List D → List PyData
  | [] => []
  | d :: ds => toPy d :: toPyL ds
end
mutual
theorem toPy_w (g : Addr → Option PyData) : ∀ d : D, eqD d = true → pyW g d = some (toPy d)
  | .non, _ => by simp [pyW, toPy]
  | .bl b, _ => by simp [pyW, toPy]
  | .int i, _ => by simp [pyW, toPy]
  | .str s, _ => by simp [pyW, toPy]
  | .tup ds, h => by
    simp only [eqD] at h
    simp [pyW, toPy, toPyL_w g ds h]
  | .lst ds, h => by
    simp only [eqD] at h
    simp [pyW, toPy, toPyL_w g ds h]
  | .ref _, h => by simp [eqD] at h
  | .scr _, h => by simp [eqD] at h
  | .exn .., h => by simp [eqD] at h
  | .clo .., h => by simp [eqD] at h
theorem toPyL_w (g : Addr → Option PyData) : ∀ ds : List D, eqDL ds = true → pyWL g ds = some (toPyL ds)
  | [], _ => by simp [pyWL, toPyL]
  | d :: ds, h => by
    simp only [eqDL, Bool.and_eq_true] at h
    simp [pyWL, toPyL, toPy_w g d h.1, toPyL_w g ds h.2]
end
mutual
theorem toPy_c : ∀ d : D, eqD d = true → (toPy d).canLay0 = true
  | .non, _ => by simp [toPy, PyData.canLay0]
  | .bl b, _ => by simp [toPy, PyData.canLay0]
  | .int i, _ => by simp [toPy, PyData.canLay0]
  | .str s, h => by
    simp only [eqD] at h
    simp only [toPy, PyData.canLay0, PyData.strOk]
    simpa using h
  | .tup ds, h => by
    simp only [eqD] at h
    simp [toPy, PyData.canLay0, toPyL_c ds h]
  | .lst ds, h => by
    simp only [eqD] at h
    simp [toPy, PyData.canLay0, toPyL_c ds h]
  | .ref _, h => by simp [eqD] at h
  | .scr _, h => by simp [eqD] at h
  | .exn .., h => by simp [eqD] at h
  | .clo .., h => by simp [eqD] at h
theorem toPyL_c : ∀ ds : List D, eqDL ds = true → PyData.canLayAll0 (toPyL ds) = true
  | [], _ => by simp [toPyL, PyData.canLayAll0]
  | d :: ds, h => by
    simp only [eqDL, Bool.and_eq_true] at h
    simp [toPyL, PyData.canLayAll0, toPy_c d h.1, toPyL_c ds h.2]
end
mutual
theorem toPy_d : ∀ d : D, (toPy d).depth = dpt d
  | .non => by simp [toPy, PyData.depth, dpt]
  | .bl b => by simp [toPy, PyData.depth, dpt]
  | .int i => by simp [toPy, PyData.depth, dpt]
  | .str s => by simp [toPy, PyData.depth, dpt]
  | .tup ds => by simp [toPy, PyData.depth, dpt, toPyL_d ds]
  | .lst ds => by simp [toPy, PyData.depth, dpt, toPyL_d ds]
  | .ref _ => by simp [toPy, PyData.depth, dpt]
  | .scr _ => by simp [toPy, PyData.depth, dpt]
  | .exn .. => by simp [toPy, PyData.depth, dpt]
  | .clo .. => by simp [toPy, PyData.depth, dpt]
theorem toPyL_d : ∀ ds : List D, PyData.depthAll (toPyL ds) = dptL ds
  | [] => by simp [toPyL, PyData.depthAll, dptL]
  | d :: ds => by simp [toPyL, PyData.depthAll, dptL, toPy_d d, toPyL_d ds]
end
theorem str_beq (s t : List Nat) : ((⟨s.toArray⟩ : Str) == ⟨t.toArray⟩) = (s == t) := by
  rw [Bool.eq_iff_iff, beq_iff_eq, beq_iff_eq, sOf_inj]
mutual
theorem toPy_e : ∀ d e : D, eqD d = true → eqD e = true → PyData.eqv (toPy d) (toPy e) = deq d e
  | .tup ds, e, h, g => by
    cases e <;> simp only [eqD] at h g <;> simp only [toPy, PyData.eqv, deq]
    all_goals first | exact toPyL_e ds _ h g | cases g
  | .lst ds, e, h, g => by
    cases e <;> simp only [eqD] at h g <;> simp only [toPy, PyData.eqv, deq]
    all_goals first | exact toPyL_e ds _ h g | cases g
  | .non, e, h, g => by cases e <;> simp only [eqD] at g <;> simp only [toPy, PyData.eqv, deq] <;> cases g
  | .bl b, e, h, g => by cases e <;> simp only [eqD] at g <;> simp only [toPy, PyData.eqv, deq] <;> cases g
  | .int i, e, h, g => by cases e <;> simp only [eqD] at g <;> simp only [toPy, PyData.eqv, deq] <;> cases g
  | .str s, e, h, g => by
    cases e <;> simp only [eqD] at g <;> simp only [toPy, PyData.eqv, deq, str_beq] <;> cases g
  | .ref _, _, h, _ => by simp [eqD] at h
  | .scr _, _, h, _ => by simp [eqD] at h
  | .exn .., _, h, _ => by simp [eqD] at h
  | .clo .., _, h, _ => by simp [eqD] at h
theorem toPyL_e : ∀ ds es : List D, eqDL ds = true → eqDL es = true → PyData.eqvAll (toPyL ds) (toPyL es) = deqL ds es
  | [], [], _, _ => by simp [toPyL, PyData.eqvAll, deqL]
  | [], e :: es, _, _ => by simp [toPyL, PyData.eqvAll, deqL]
  | d :: ds, [], _, _ => by simp [toPyL, PyData.eqvAll, deqL]
  | d :: ds, e :: es, h, g => by
    simp only [eqDL, Bool.and_eq_true] at h g
    simp [toPyL, PyData.eqvAll, deqL, toPy_e d e h.1 g.1, toPyL_e ds es h.2 g.2]
end
def eqOk (d : D) : Bool := eqD d && decide (dpt d ≤ 64)
theorem eqOk_py {d : D} (h : eqOk d = true) (ω : Om) : pyF 3 ω d = some (toPy d) ∧ SeqAt.shaped (toPy d) = true := by
  unfold eqOk at h
  rw [Bool.and_eq_true] at h
  refine ⟨toPy_w _ d h.1, ?_⟩
  unfold SeqAt.shaped
  rw [toPy_c d h.1, toPy_d d, h.2]; rfl
theorem x_eqD {d e : D} {ω : Om} {Φ : D → Om → Prop} (h : eqOk d = true) (g : eqOk e = true) : eqDW false d e ω Φ = Φ (.bl (deq d e)) ω := by
  obtain ⟨a1, a2⟩ := eqOk_py h ω
  obtain ⟨b1, b2⟩ := eqOk_py g ω
  have h1 := h; have g1 := g
  unfold eqOk at h1 g1
  rw [Bool.and_eq_true] at h1 g1
  have e1 := toPy_e d e h1.1 g1.1
  refine propext ⟨?_, fun z => ⟨_, _, a1, b1, a2, b2, by rw [e1]; exact z⟩⟩
  rintro ⟨p, q, c1, c2, _, _, z⟩
  rw [a1] at c1; rw [b1] at c2; cases c1; cases c2
  rw [e1] at z; exact z
theorem x_neD {d e : D} {ω : Om} {Φ : D → Om → Prop} (h : eqOk d = true) (g : eqOk e = true) : eqDW true d e ω Φ = Φ (.bl (!deq d e)) ω := by
  obtain ⟨a1, a2⟩ := eqOk_py h ω
  obtain ⟨b1, b2⟩ := eqOk_py g ω
  have h1 := h; have g1 := g
  unfold eqOk at h1 g1
  rw [Bool.and_eq_true] at h1 g1
  have e1 := toPy_e d e h1.1 g1.1
  refine propext ⟨?_, fun z => ⟨_, _, a1, b1, a2, b2, by rw [e1]; exact z⟩⟩
  rintro ⟨p, q, c1, c2, _, _, z⟩
  rw [a1] at c1; rw [b1] at c2; cases c1; cases c2
  rw [e1] at z; exact z
/-- == on whatever may be compared -/
theorem eqW_D {neg : Bool} {d e : D} {ω : Om} {Φ : D → Om → Prop} (h : eqOk d = true) (g : eqOk e = true) : eqW neg d e ω Φ = Φ (.bl (if neg then !deq d e else deq d e)) ω := by
  have hi : ∀ i j : Int, (i == j) = decide (i = j) := fun i j => by rw [Bool.eq_iff_iff]; simp
  have hs : ∀ i j : List Nat, (i == j) = decide (i = j) := fun i j => by rw [Bool.eq_iff_iff]; simp
  have hb : ∀ i j : Bool, (i == j) = decide (i = j) := fun i j => by rw [Bool.eq_iff_iff]; simp
  cases d <;> cases e <;> first
    | (cases neg <;> first | exact x_eqD h g | exact x_neD h g)
    | (simp only [eqW, deq, hi, hs, hb]; done)
    | (cases neg <;> simp [eqW, deq])
section
variable {K : Fg} {ρ : En} {ω : Om} {Φ : D → Om → Prop} {Ψ : Exn → Om → Prop} {Ft : Bool → Om → Prop} {Fa : List D → Om → Prop} {Fo : Option Int → Om → Prop} {A B C : BE K} {As : BA K} {S S2 : BS K} {T1 T2 : BT K} {G : BG K} {k : KD} {d e : D} {i j : Int} {s t : List Nat} {x y : Bool} {n : Nat} {a : Addr} {ds es : List D}
variable {nx bk ct : En → Om → Prop} {rt : D → Om → Prop} {xc : Exn → En → Om → Prop}
theorem cond {P Q : Prop} (h : P) : (P ∧ Q) = Q := propext ⟨fun z => z.2, fun z => ⟨h, z⟩⟩
theorem x_eqG (h : eqOk d = true) (g : eqOk e = true) : (oEq : O2 K).w d e ω Φ = Φ (.bl (deq d e)) ω := eqW_D (neg := false) h g
theorem x_neG (h : eqOk d = true) (g : eqOk e = true) : (oNe : O2 K).w d e ω Φ = Φ (.bl (!deq d e)) ω := eqW_D (neg := true) h g
theorem x_sz {P : Prop} (h : n ≤ 16777216) : SzW n P = P := cond (by rw [sizeLine_eq]; exact h)
theorem x_rg1 {F : Int → Prop} (h : -4611686018427387904 ≤ j ∧ j < 4611686018427387904) : rg1W [.int j] F = F j := cond ⟨by omega, by omega⟩
theorem x_rg2 {F : Int → Int → Prop} (h : (-4611686018427387904 ≤ i ∧ i < 4611686018427387904) ∧ -4611686018427387904 ≤ j ∧ j < 4611686018427387904) : rg2W [.int i, .int j] F = F i j := cond ⟨by omega, by omega, by omega, by omega⟩
theorem x_varS : varW (some (some d)) F = F d := rfl
theorem x_var {i : Nat} : (bVar i : BE K).w ρ ω Φ Ψ = varW ρ[i]? fun d => Φ d ω := rfl
theorem x_addS (h : s.length + t.length ≤ 16777216) : (oAdd : O2 K).w (.str s) (.str t) ω Φ = Φ (.str (s ++ t)) ω := cond (by rw [sizeLine_eq]; exact h)
theorem x_addT (h : ds.length + es.length ≤ 16777216) : (oAdd : O2 K).w (.tup ds) (.tup es) ω Φ = Φ (.tup (ds ++ es)) ω := cond (by rw [sizeLine_eq]; exact h)
theorem x_addL (h : ds.length + es.length ≤ 16777216) : (oAdd : O2 K).w (.lst ds) (.lst es) ω Φ = Φ (.lst (ds ++ es)) ω := propext ⟨fun ⟨a, b, h1, h2, _, z⟩ => by cases h1; cases h2; exact z, fun z => ⟨ds, es, rfl, rfl, by rw [sizeLine_eq]; exact h, z⟩⟩
theorem x_addOL (h : ds.length + es.length ≤ 16777216) : (oAddO : O2 K).w (.lst ds) (.lst es) ω Φ = ∀ a, ω a = none → Φ (.ref a) (ω.set a (.lst (ds ++ es))) := propext ⟨fun ⟨a, b, h1, h2, _, z⟩ => by cases h1; cases h2; exact z, fun z => ⟨ds, es, rfl, rfl, by rw [sizeLine_eq]; exact h, z⟩⟩
theorem x_mul (h : (-18446744073709551616 < i ∧ i < 18446744073709551616) ∨ (-18446744073709551616 < j ∧ j < 18446744073709551616)) : (oMul : O2 K).w (.int i) (.int j) ω Φ = Φ (.int (i * j)) ω := cond (.inl (by unfold CMul; omega))
theorem x_mulS (h : i ≤ 100000 ∧ -100000 ≤ i ∧ s.length ≤ 100) : (oMul : O2 K).w (.str s) (.int i) ω Φ = Φ (.str (List.replicate i.toNat s).flatten) ω := propext ⟨fun z => z.2.2.2, fun z => ⟨h.1, h.2.1, h.2.2, z⟩⟩
theorem x_mulLF (h : -100000 ≤ i ∧ i ≤ 100000 ∧ ds.length ≤ 100) : (oMulLst false : O2 K).w (.lst ds) (.int i) ω Φ = Φ (.lst (List.replicate i.toNat ds).flatten) ω := propext ⟨fun ⟨a, h1, _, _, _, z⟩ => by cases h1; exact z, fun z => ⟨ds, rfl, h.1, h.2.1, h.2.2, z⟩⟩
theorem x_mulLT (h : -100000 ≤ i ∧ i ≤ 100000 ∧ ds.length ≤ 100) : (oMulLst true : O2 K).w (.lst ds) (.int i) ω Φ = ∀ a, ω a = none → Φ (.ref a) (ω.set a (.lst (List.replicate i.toNat ds).flatten)) := propext ⟨fun ⟨a, h1, _, _, _, z⟩ => by cases h1; exact z, fun z => ⟨ds, rfl, h.1, h.2.1, h.2.2, z⟩⟩
theorem x_div (h : 0 < j ∧ j < 1073741824) : (oDiv : O2 K).w (.int i) (.int j) ω Φ = Φ (.int (i / j)) ω := cond ⟨h.1, .inl h.2⟩
theorem x_mod (h : 0 < j) : (oMod : O2 K).w (.int i) (.int j) ω Φ = Φ (.int (i % j)) ω := cond h
theorem x_pow (h : 0 ≤ j ∧ j ≤ 1000000 ∧ i.natAbs < 18446744073709551616) : (oPow : O2 K).w (.int i) (.int j) ω Φ = Φ (.int (i ^ j.toNat)) ω := cond ⟨h.1, h.2.1, by rw [show (2 : Nat) ^ 64 = 18446744073709551616 from rfl]; exact h.2.2⟩
theorem x_pow4 : (oPow : O2 K).w (.int 10) (.int 4) ω Φ = Φ (.int 10000) ω := cond ⟨by decide, by decide, by decide⟩
theorem x_pow5 : (oPow : O2 K).w (.int 10) (.int 5) ω Φ = Φ (.int 100000) ω := cond ⟨by decide, by decide, by decide⟩
theorem x_pow6 : (oPow : O2 K).w (.int 10) (.int 6) ω Φ = Φ (.int 1000000) ω := cond ⟨by decide, by decide, by decide⟩
theorem x_pow7 : (oPow : O2 K).w (.int 10) (.int 7) ω Φ = Φ (.int 10000000) ω := cond ⟨by decide, by decide, by decide⟩
theorem x_pow9 : (oPow : O2 K).w (.int 10) (.int 9) ω Φ = Φ (.int 1000000000) ω := cond ⟨by decide, by decide, by decide⟩
theorem x_pow12 : (oPow : O2 K).w (.int 10) (.int 12) ω Φ = Φ (.int 1000000000000) ω := cond ⟨by decide, by decide, by decide⟩
theorem x_pow60 : (oPow : O2 K).w (.int 10) (.int 60) ω Φ = Φ (.int 1000000000000000000000000000000000000000000000000000000000000) ω := cond ⟨by decide, by decide, by decide⟩
theorem x_shr (h : 0 ≤ j) : (oShr : O2 K).w (.int i) (.int j) ω Φ = Φ (.int (i / 2 ^ j.toNat)) ω := cond h
theorem x_isT : (oIs false : O2 K).w (.bl x) (.bl true) ω Φ = Φ (.bl x) ω := by cases x <;> rfl
theorem x_isF : (oIs false : O2 K).w (.bl x) (.bl false) ω Φ = Φ (.bl (!x)) ω := by cases x <;> rfl
theorem x_isNT : (oIs true : O2 K).w (.bl x) (.bl true) ω Φ = Φ (.bl (!x)) ω := by cases x <;> rfl
theorem x_isNF : (oIs true : O2 K).w (.bl x) (.bl false) ω Φ = Φ (.bl x) ω := by cases x <;> rfl
def isNon : D → Bool
  | .non => true
  | _ => false
theorem x_isN : (oIs false : O2 K).w d .non ω Φ = Φ (.bl (isNon d)) ω := by cases d <;> rfl
theorem x_isNN : (oIs true : O2 K).w d .non ω Φ = Φ (.bl (!isNon d)) ω := by cases d <;> rfl
theorem x_non0 : isNon .non = true := rfl
theorem x_non1 : isNon (.bl x) = false := rfl
theorem x_non2 : isNon (.int i) = false := rfl
theorem x_non3 : isNon (.str s) = false := rfl
theorem x_non4 : isNon (.tup ds) = false := rfl
theorem x_non5 : isNon (.lst ds) = false := rfl
theorem x_non6 : isNon (.ref a) = false := rfl
theorem x_ixS (h : s.length ≤ 16777216) : (oIx : O2 K).w (.str s) (.int i) ω Φ = optW (atI s i) fun c => Φ (.str [c]) ω := by
  refine propext ⟨fun ⟨_, c, h1, z⟩ => by rw [h1]; exact z, fun z => ?_⟩
  obtain ⟨c, h1, h2⟩ := optW_iff.mp z
  exact ⟨by rw [sizeLine_eq]; exact h, c, h1, h2⟩
theorem x_ixT : (oIx : O2 K).w (.tup ds) (.int i) ω Φ = optW (atI ds i) fun d => Φ d ω := propext optW_iff.symm
theorem x_ixC {ns : List Int} : (oIx : O2 K).w (.scr ns) (.int i) ω Φ = optW (atI ns i) fun d => Φ (.int d) ω := propext optW_iff.symm
theorem x_ixL : (oIx : O2 K).w (.lst ds) (.int i) ω Φ = optW (atI ds i) fun d => Φ d ω := by
  refine propext ⟨fun ⟨_, d, h0, h1, z⟩ => by cases h0; rw [h1]; exact z, fun z => ?_⟩
  obtain ⟨c, h1, h2⟩ := optW_iff.mp z
  exact ⟨ds, c, rfl, h1, h2⟩
theorem x_ixR : (oIx : O2 K).w (.ref a) (.int i) ω Φ = cL (ω a) fun ds => optW (atI ds i) fun d => Φ d ω := by
  refine propext ⟨fun ⟨ds, d, h0, h1, z⟩ => cL_iff.mpr ⟨ds, lstOf_ref.mp h0, by rw [h1]; exact z⟩, fun z => ?_⟩
  obtain ⟨ds, h0, z⟩ := cL_iff.mp z
  obtain ⟨c, h1, h2⟩ := optW_iff.mp z
  exact ⟨ds, c, lstOf_ref.mpr h0, h1, h2⟩
theorem x_at0 {α : Type} {a : α} {r : List α} : atI (a :: r) 0 = some a := by
  rw [atI_nn (by omega)]; rfl
theorem x_at1 {α : Type} {a b : α} {r : List α} : atI (a :: b :: r) 1 = some b := by
  rw [atI_nn (by omega)]; rfl
theorem x_at2 {α : Type} {a b c : α} {r : List α} : atI (a :: b :: c :: r) 2 = some c := by
  rw [atI_nn (by omega)]; rfl
theorem x_at3 {α : Type} {a b c d : α} {r : List α} : atI (a :: b :: c :: d :: r) 3 = some d := by
  rw [atI_nn (by omega)]; rfl
theorem x_at4 {α : Type} {c0 c1 c2 c3 c4 : α} {r : List α} : atI (c0 :: c1 :: c2 :: c3 :: c4 :: r) 4 = some c4 := by
  rw [atI_nn (by omega)]; rfl
theorem x_at5 {α : Type} {c0 c1 c2 c3 c4 c5 : α} {r : List α} : atI (c0 :: c1 :: c2 :: c3 :: c4 :: c5 :: r) 5 = some c5 := by
  rw [atI_nn (by omega)]; rfl
theorem x_at6 {α : Type} {c0 c1 c2 c3 c4 c5 c6 : α} {r : List α} : atI (c0 :: c1 :: c2 :: c3 :: c4 :: c5 :: c6 :: r) 6 = some c6 := by
  rw [atI_nn (by omega)]; rfl
theorem x_at7 {α : Type} {c0 c1 c2 c3 c4 c5 c6 c7 : α} {r : List α} : atI (c0 :: c1 :: c2 :: c3 :: c4 :: c5 :: c6 :: c7 :: r) 7 = some c7 := by
  rw [atI_nn (by omega)]; rfl
theorem x_at8 {α : Type} {c0 c1 c2 c3 c4 c5 c6 c7 c8 : α} {r : List α} : atI (c0 :: c1 :: c2 :: c3 :: c4 :: c5 :: c6 :: c7 :: c8 :: r) 8 = some c8 := by
  rw [atI_nn (by omega)]; rfl
theorem x_at9 {α : Type} {c0 c1 c2 c3 c4 c5 c6 c7 c8 c9 : α} {r : List α} : atI (c0 :: c1 :: c2 :: c3 :: c4 :: c5 :: c6 :: c7 :: c8 :: c9 :: r) 9 = some c9 := by
  rw [atI_nn (by omega)]; rfl
theorem x_at10 {α : Type} {c0 c1 c2 c3 c4 c5 c6 c7 c8 c9 c10 : α} {r : List α} : atI (c0 :: c1 :: c2 :: c3 :: c4 :: c5 :: c6 :: c7 :: c8 :: c9 :: c10 :: r) 10 = some c10 := by
  rw [atI_nn (by omega)]; rfl
theorem x_slS {own : Bool} {lo hi : Option Int} (h : s.length ≤ 16777216) : (oSl own : O3 K).w (.str s) lo hi ω Φ = Φ (.str (cut s lo hi)) ω := cond (by rw [sizeLine_eq]; exact h)
theorem x_slL {lo hi : Option Int} : (oSl false : O3 K).w (.lst ds) lo hi ω Φ = Φ (.lst (cut ds lo hi)) ω := propext ⟨fun ⟨_, h, z⟩ => by cases h; exact z, fun z => ⟨ds, rfl, z⟩⟩
theorem x_slLO {lo hi : Option Int} : (oSl true : O3 K).w (.lst ds) lo hi ω Φ = ∀ a, ω a = none → Φ (.ref a) (ω.set a (.lst (cut ds lo hi))) := propext ⟨fun ⟨_, h, z⟩ => by cases h; exact z, fun z => ⟨ds, rfl, z⟩⟩
theorem x_slC {own : Bool} {ns : List Int} {lo hi : Option Int} : (oSl own : O3 K).w (.scr ns) lo hi ω Φ = Φ (.lst ((cut ns lo hi).map .int)) ω := rfl
theorem x_slR {lo hi : Option Int} : (oSl false : O3 K).w (.ref a) lo hi ω Φ = cL (ω a) fun ds => Φ (.lst (cut ds lo hi)) ω := by
  refine propext ⟨fun ⟨ds, h0, z⟩ => cL_iff.mpr ⟨ds, lstOf_ref.mp h0, z⟩, fun z => ?_⟩
  obtain ⟨ds, h0, z⟩ := cL_iff.mp z
  exact ⟨ds, lstOf_ref.mpr h0, z⟩
theorem x_slRO {lo hi : Option Int} : (oSl true : O3 K).w (.ref a) lo hi ω Φ = cL (ω a) fun ds => ∀ b, ω b = none → Φ (.ref b) (ω.set b (.lst (cut ds lo hi))) := by
  refine propext ⟨fun ⟨ds, h0, z⟩ => cL_iff.mpr ⟨ds, lstOf_ref.mp h0, z⟩, fun z => ?_⟩
  obtain ⟨ds, h0, z⟩ := cL_iff.mp z
  exact ⟨ds, lstOf_ref.mpr h0, z⟩
theorem x_in {c : Nat} : (oIn false : O2 K).w (.str [c]) (.str t) ω Φ = Φ (.bl (decide (c ∈ t))) ω := propext ⟨fun ⟨_, h, z⟩ => by cases h; exact z, fun z => ⟨c, rfl, z⟩⟩
theorem x_nin {c : Nat} : (oIn true : O2 K).w (.str [c]) (.str t) ω Φ = Φ (.bl (!decide (c ∈ t))) ω := propext ⟨fun ⟨_, h, z⟩ => by cases h; exact z, fun z => ⟨c, rfl, z⟩⟩
theorem x_inT (h : flatD d = true) (g : ds.all flatD = true) (hs : ∀ s, d ≠ .str s ∨ True) : (oIn false : O2 K).w d (.tup ds) ω Φ = Φ (.bl (ds.any fun e => eqF e d)) ω := by
  cases d <;> exact propext ⟨fun z => z.2.2, fun z => ⟨h, g, z⟩⟩
theorem x_truS (h : s.length ≤ 16777216) : truW (.str s) ω Ft = Ft (!s.isEmpty) ω := cond (by rw [sizeLine_eq]; exact h)
theorem x_lenS (h : s.length ≤ 16777216) : (cLen : CB K).w [.str s] ω Φ = Φ (.int s.length) ω := cond (by rw [sizeLine_eq]; exact h)
theorem x_lenR : (cLen : CB K).w [.ref a] ω Φ = cL (ω a) fun ds => Φ (.int ds.length) ω := propext cL_iff.symm
theorem x_all {bs : List Bool} : (cAll : CB K).w [.lst (bs.map .bl)] ω Φ = Φ (.bl (bs.all id)) ω := by
  refine propext ⟨fun ⟨_, _, _, h0, h1, h2, z⟩ => ?_, fun z => w_all z⟩
  cases h0; cases h1
  rw [blsOf_map] at h2; cases h2; exact z
theorem x_isW0 {U : String} : isW1 U .non ω Φ = Φ (.bl (isT "NoneType" U)) ω := rfl
theorem x_isW1 {U : String} : isW1 U (.bl x) ω Φ = Φ (.bl (isT "bool" U)) ω := rfl
theorem x_isW2 {U : String} : isW1 U (.int i) ω Φ = Φ (.bl (isT "int" U)) ω := rfl
theorem x_isW3 {U : String} : isW1 U (.str s) ω Φ = Φ (.bl (isT "str" U)) ω := rfl
theorem x_isW4 {U : String} : isW1 U (.tup ds) ω Φ = Φ (.bl (isT "tuple" U)) ω := rfl
theorem x_isW5 {U : String} : isW1 U (.lst ds) ω Φ = Φ (.bl (isT "list" U)) ω := rfl
theorem x_isTii : isT "int" "int" = true := by decide
theorem x_isTbi : isT "bool" "int" = true := by decide
theorem x_isTbb : isT "bool" "bool" = true := by decide
theorem x_isTib : isT "int" "bool" = false := by decide
theorem x_isTss : isT "str" "str" = true := by decide
theorem x_isTtt : isT "tuple" "tuple" = true := by decide
theorem x_isTll : isT "list" "list" = true := by decide
theorem x_isTnt : isT "NoneType" "tuple" = false := by decide
theorem x_isTst : isT "str" "tuple" = false := by decide
theorem x_isTit : isT "int" "tuple" = false := by decide
theorem x_isTlt : isT "list" "tuple" = false := by decide
theorem x_isTbt : isT "bool" "tuple" = false := by decide
theorem x_isTni : isT "NoneType" "int" = false := by decide
theorem x_isTns : isT "NoneType" "str" = false := by decide
theorem x_isTis : isT "int" "str" = false := by decide
theorem x_isTbs : isT "bool" "str" = false := by decide
theorem x_isTts : isT "tuple" "str" = false := by decide
theorem x_isTls : isT "list" "str" = false := by decide
theorem x_isTsi : isT "str" "int" = false := by decide
theorem x_isTti : isT "tuple" "int" = false := by decide
theorem x_isTli : isT "list" "int" = false := by decide
theorem x_isTtl : isT "tuple" "list" = false := by decide
theorem x_gT {gs : BGs K} {F : En → Om → Prop} (h : ds.length = n) : (bgT n gs).w (.tup ds) ρ ω F = gs.w ds ρ ω F := cond h
theorem x_aug {i : Nat} {o : O2 K} : (bsAug i A o).w ρ ω ⟨nx, rt, bk, ct, xc⟩ = varW ρ[i]? fun d => A.w ρ ω (fun y ω1 => o.w d y ω1 fun v ω2 => nx (ρ.set i (some v)) ω2) fun x ω1 => xc x ρ ω1 := rfl
theorem x_itR {Fi : List D → (Om → Prop) → Om → Prop} : itemsW (.ref a) ω Fi = cL (ω a) fun ds => Fi ds (fun ω' => ω' a = some (.lst ds)) ω := propext cL_iff.symm
theorem x_truR : truW (.ref a) ω Ft = match ω a with | some (.lst ds) => Ft (!ds.isEmpty) ω | some (.dk kvs) => Ft (!kvs.isEmpty) ω | _ => False := rfl
theorem x_setS {c : Cell} : ω.set a c a = some c := Om.set_same
theorem x_setN {b : Addr} {c : Cell} (h : b ≠ a) : ω.set a c b = ω b := Om.set_ne h
theorem iteI {c : Prop} [Decidable c] {P Q : Prop} (h1 : c → P) (h2 : ¬ c → Q) : if c then P else Q := by
  by_cases h : c
  · rw [if_pos h]; exact h1 h
  · rw [if_neg h]; exact h2 h
theorem start_def (n : Nat) (ds : List D) : startD n ds = ds.map some ++ List.replicate (n - ds.length) none := rfl
theorem x_it {i : Int} {F : Int → Prop} : (intW (.int i) F) = (F i) := rfl
theorem x_con {v : V} {hr : ∀ H, Rep K H v d} : ((bCon v d hr : BE K).w ρ ω Φ Ψ) = (Φ d ω) := rfl
theorem x_lit {x : Str} {l : List Nat} {h : cs x = l} : ((bLit x l h : BE K).w ρ ω Φ Ψ) = (Φ (.str l) ω) := rfl
theorem x_int : ((bInt i : BE K).w ρ ω Φ Ψ) = (Φ (.int i) ω) := rfl
theorem x_op {o : O2 K} : ((bOp o A B).w ρ ω Φ Ψ) = (A.w ρ ω (fun x ω1 => B.w ρ ω1 (fun y ω2 => o.w x y ω2 Φ) Ψ) Ψ) := rfl
theorem x_add : ((oAdd : O2 K).w (.int i) (.int j) ω Φ) = (Φ (.int (i + j)) ω) := rfl
theorem x_sub : ((oSub : O2 K).w (.int i) (.int j) ω Φ) = (Φ (.int (i - j)) ω) := rfl
theorem x_neg : ((bNeg A).w ρ ω Φ Ψ) = (A.w ρ ω (fun x ω1 => intW x fun i => Φ (.int (-i)) ω1) Ψ) := rfl
theorem x_lt : ((oLt : O2 K).w (.int i) (.int j) ω Φ) = (Φ (.bl (decide (i < j))) ω) := rfl
theorem x_le : ((oLe : O2 K).w (.int i) (.int j) ω Φ) = (Φ (.bl (decide (i ≤ j))) ω) := rfl
theorem x_gt : ((oGt : O2 K).w (.int i) (.int j) ω Φ) = (Φ (.bl (decide (j < i))) ω) := rfl
theorem x_ge : ((oGe : O2 K).w (.int i) (.int j) ω Φ) = (Φ (.bl (decide (j ≤ i))) ω) := rfl
theorem x_ltS : ((oLt : O2 K).w (.str s) (.str t) ω Φ) = (Φ (.bl (ltS s t)) ω) := rfl
theorem x_leS : ((oLe : O2 K).w (.str s) (.str t) ω Φ) = (Φ (.bl (!ltS t s)) ω) := rfl
theorem x_gtS : ((oGt : O2 K).w (.str s) (.str t) ω Φ) = (Φ (.bl (ltS t s)) ω) := rfl
theorem x_geS : ((oGe : O2 K).w (.str s) (.str t) ω Φ) = (Φ (.bl (!ltS s t)) ω) := rfl
theorem x_eqI : ((oEq : O2 K).w (.int i) (.int j) ω Φ) = (Φ (.bl (decide (i = j))) ω) := rfl
theorem x_eqS : ((oEq : O2 K).w (.str s) (.str t) ω Φ) = (Φ (.bl (decide (s = t))) ω) := rfl
theorem x_eqB : ((oEq : O2 K).w (.bl x) (.bl y) ω Φ) = (Φ (.bl (decide (x = y))) ω) := rfl
theorem x_neI : ((oNe : O2 K).w (.int i) (.int j) ω Φ) = (Φ (.bl (!decide (i = j))) ω) := rfl
theorem x_neS : ((oNe : O2 K).w (.str s) (.str t) ω Φ) = (Φ (.bl (!decide (s = t))) ω) := rfl
theorem x_neB : ((oNe : O2 K).w (.bl x) (.bl y) ω Φ) = (Φ (.bl (!decide (x = y))) ω) := rfl
theorem x_eqN : ((oEq : O2 K).w .non .non ω Φ) = (Φ (.bl true) ω) := rfl
theorem x_neN : ((oNe : O2 K).w .non .non ω Φ) = (Φ (.bl false) ω) := rfl
theorem x_eqIN : ((oEq : O2 K).w (.int i) .non ω Φ) = (Φ (.bl false) ω) := rfl
theorem x_eqNI : ((oEq : O2 K).w .non (.int i) ω Φ) = (Φ (.bl false) ω) := rfl
theorem x_eqSN : ((oEq : O2 K).w (.str s) .non ω Φ) = (Φ (.bl false) ω) := rfl
theorem x_eqNS : ((oEq : O2 K).w .non (.str s) ω Φ) = (Φ (.bl false) ω) := rfl
theorem x_isB : ((oIs false : O2 K).w (.bl x) (.bl y) ω Φ) = (Φ (.bl (decide (x = y))) ω) := rfl
theorem x_isNB : ((oIs true : O2 K).w (.bl x) (.bl y) ω Φ) = (Φ (.bl (!decide (x = y))) ω) := rfl
theorem x_sl {own : Bool} {L U : BO K} : ((bSl (oSl own) A L U).w ρ ω Φ Ψ) = (A.w ρ ω (fun x ω1 => L.w ρ ω1 (fun i ω2 => U.w ρ ω2 (fun j ω3 => (oSl own : O3 K).w x i j ω3 Φ) Ψ) Ψ) Ψ) := rfl
theorem x_oN : ((boN : BO K).w ρ ω Fo Ψ) = (Fo none ω) := rfl
theorem x_oS : ((boS A).w ρ ω Fo Ψ) = (A.w ρ ω (fun x ω1 => intW x fun i => Fo (some i) ω1) Ψ) := rfl
theorem x_slT {own : Bool} {ds : List D} {lo hi : Option Int} : ((oSl own : O3 K).w (.tup ds) lo hi ω Φ) = (Φ (.tup (cut ds lo hi)) ω) := rfl
theorem x_baN : ((baN : BA K).w ρ ω Fa Ψ) = (Fa [] ω) := rfl
theorem x_baC : ((baC A As).w ρ ω Fa Ψ) = (A.w ρ ω (fun x ω1 => As.w ρ ω1 (fun xs ω2 => Fa (x :: xs) ω2) Ψ) Ψ) := rfl
theorem x_tup : ((bTup As).w ρ ω Φ Ψ) = (As.w ρ ω (fun xs ω1 => SzW xs.length (Φ (.tup xs) ω1)) Ψ) := rfl
theorem x_lst : ((bLst false As).w ρ ω Φ Ψ) = (As.w ρ ω (fun xs ω1 => SzW xs.length (Φ (.lst xs) ω1)) Ψ) := rfl
theorem x_lstO : ((bLst true As).w ρ ω Φ Ψ) = (As.w ρ ω (fun xs ω1 => SzW xs.length (∀ a, ω1 a = none → Φ (.ref a) (ω1.set a (.lst xs)))) Ψ) := rfl
theorem x_tru : ((btTru A).w ρ ω Ft Ψ) = (A.w ρ ω (fun x ω1 => truW x ω1 Ft) Ψ) := rfl
theorem x_truB : (truW (.bl x) ω Ft) = (Ft x ω) := rfl
theorem x_truN : (truW .non ω Ft) = (Ft false ω) := rfl
theorem x_truI : (truW (.int i) ω Ft) = (Ft (i != 0) ω) := rfl
theorem x_truT {ds : List D} : (truW (.tup ds) ω Ft) = (Ft (!ds.isEmpty) ω) := rfl
theorem x_truL {ds : List D} : (truW (.lst ds) ω Ft) = (Ft (!ds.isEmpty) ω) := rfl
theorem x_tC : ((btC A).w ρ ω Ft Ψ) = (A.w ρ ω (fun x ω1 => blW x fun b => Ft b ω1) Ψ) := rfl
theorem x_tB : ((btB A).w ρ ω Ft Ψ) = (A.w ρ ω (fun x ω1 => blW x fun b => Ft b ω1) Ψ) := rfl
theorem x_tand : ((btAnd T1 T2).w ρ ω Ft Ψ) = (T1.w ρ ω (fun c ω1 => if c = true then T2.w ρ ω1 Ft Ψ else Ft false ω1) Ψ) := rfl
theorem x_tor : ((btOr T1 T2).w ρ ω Ft Ψ) = (T1.w ρ ω (fun c ω1 => if c = true then Ft true ω1 else T2.w ρ ω1 Ft Ψ) Ψ) := rfl
theorem x_tnot : ((btNot T1).w ρ ω Ft Ψ) = (T1.w ρ ω (fun c ω1 => Ft (!c) ω1) Ψ) := rfl
theorem x_yes : ((btYes : BT K).w ρ ω Ft Ψ) = (Ft true ω) := rfl
theorem x_and : ((bAndT A B).w ρ ω Φ Ψ) = (A.w ρ ω (fun x ω1 => truW x ω1 fun c ω2 => if c = true then B.w ρ ω2 Φ Ψ else Φ x ω2) Ψ) := rfl
theorem x_or : ((bOrT A B).w ρ ω Φ Ψ) = (A.w ρ ω (fun x ω1 => truW x ω1 fun c ω2 => if c = true then Φ x ω2 else B.w ρ ω2 Φ Ψ) Ψ) := rfl
theorem x_not : ((bNotT A).w ρ ω Φ Ψ) = (A.w ρ ω (fun x ω1 => truW x ω1 fun c ω2 => Φ (.bl (!c)) ω2) Ψ) := rfl
theorem x_if : ((bIf T1 A B).w ρ ω Φ Ψ) = (T1.w ρ ω (fun x ω1 => if x = true then A.w ρ ω1 Φ Ψ else B.w ρ ω1 Φ Ψ) Ψ) := rfl
theorem x_chain {o p : O2 K} : ((bChain o p A B C).w ρ ω Φ Ψ) = (A.w ρ ω (fun x ω1 => B.w ρ ω1 (fun y ω2 => o.w x y ω2 fun r ω3 => blW r fun k => if k = true then C.w ρ ω3 (fun z ω4 => p.w y z ω4 Φ) Ψ else Φ (.bl false) ω3) Ψ) Ψ) := rfl
theorem x_bl {F : Bool → Prop} : (blW (.bl x) F) = (F x) := rfl
theorem x_cb {c : CB K} : ((bCB c As).w ρ ω Φ Ψ) = (As.w ρ ω (fun xs ω1 => c.w xs ω1 Φ) Ψ) := rfl
theorem x_lenT {ds : List D} : ((cLen : CB K).w [.tup ds] ω Φ) = (Φ (.int ds.length) ω) := rfl
theorem x_lenL {ds : List D} : ((cLen : CB K).w [.lst ds] ω Φ) = (Φ (.int ds.length) ω) := rfl
theorem x_lenC {ns : List Int} : ((cLen : CB K).w [.scr ns] ω Φ) = (Φ (.int ns.length) ω) := rfl
theorem x_max : ((cMax2 : CB K).w [.int i, .int j] ω Φ) = (Φ (.int (max i j)) ω) := rfl
theorem x_min : ((cMin2 : CB K).w [.int i, .int j] ω Φ) = (Φ (.int (min i j)) ω) := rfl
theorem x_isi {U : String} {hU} : ((bIsi U hU A).w ρ ω Φ Ψ) = (A.w ρ ω (fun x ω1 => isW1 U x ω1 Φ) Ψ) := rfl
theorem x_call {W : WP} {vs : List V} {ds : List D} {hd} : ((bCall W vs ds hd As).w ρ ω Φ Ψ) = (As.w ρ ω (fun xs ω1 => W (xs ++ ds) ω1 Φ) Ψ) := rfl
theorem x_frz : ((bFrz A).w ρ ω Φ Ψ) = (A.w ρ ω (fun d ω1 => match d with | .ref a => (match ω1 a with | some (.lst ds) => Φ (.lst ds) (ω1.del a) | _ => Φ (.ref a) ω1) | d => Φ d ω1) Ψ) := rfl
theorem x_next : ((bsNext : BS K).w ρ ω ⟨nx, rt, bk, ct, xc⟩) = (nx ρ ω) := rfl
theorem x_break : ((bsBreak : BS K).w ρ ω ⟨nx, rt, bk, ct, xc⟩) = (bk ρ ω) := rfl
theorem x_cont : ((bsCont : BS K).w ρ ω ⟨nx, rt, bk, ct, xc⟩) = (ct ρ ω) := rfl
theorem x_seq : ((bsSeq S S2).w ρ ω ⟨nx, rt, bk, ct, xc⟩) = (S.w ρ ω ⟨fun ρ1 ω1 => S2.w ρ1 ω1 ⟨nx, rt, bk, ct, xc⟩, rt, bk, ct, xc⟩) := rfl
theorem x_asg : ((bsAsg A G).w ρ ω ⟨nx, rt, bk, ct, xc⟩) = (A.w ρ ω (fun d ω1 => G.w d ρ ω1 nx) fun x ω1 => xc x ρ ω1) := rfl
theorem x_gN {i : Nat} {F : En → Om → Prop} : ((bgN i : BG K).w d ρ ω F) = (F (ρ.set i (some d)) ω) := rfl
theorem x_gsN {F : En → Om → Prop} : ((bgsN : BGs K).w [] ρ ω F) = (F ρ ω) := rfl
theorem x_gsC {gs : BGs K} {F : En → Om → Prop} {ds : List D} : ((bgsC G gs).w (d :: ds) ρ ω F) = (G.w d ρ ω fun ρ1 ω1 => gs.w ds ρ1 ω1 F) := rfl
theorem x_drop : ((bsDrop A).w ρ ω ⟨nx, rt, bk, ct, xc⟩) = (A.w ρ ω (fun _ ω1 => nx ρ ω1) fun x ω1 => xc x ρ ω1) := rfl
theorem x_ret : ((bsRet A).w ρ ω ⟨nx, rt, bk, ct, xc⟩) = (A.w ρ ω rt fun x ω1 => xc x ρ ω1) := rfl
theorem x_retN : ((bsRetN : BS K).w ρ ω ⟨nx, rt, bk, ct, xc⟩) = (rt .non ω) := rfl
theorem x_sif : ((bsIf T1 S S2).w ρ ω ⟨nx, rt, bk, ct, xc⟩) = (T1.w ρ ω (fun x ω1 => if x = true then S.w ρ ω1 ⟨nx, rt, bk, ct, xc⟩ else S2.w ρ ω1 ⟨nx, rt, bk, ct, xc⟩) fun x ω1 => xc x ρ ω1) := rfl
theorem x_for {I : BI K} : ((bsFor I G S).w ρ ω ⟨nx, rt, bk, ct, xc⟩) = (I.w ρ ω (fun ds chk ω1 => forGo chk G S ⟨nx, rt, bk, ct, xc⟩ ds ρ ω1) fun x ω1 => xc x ρ ω1) := rfl
theorem x_seqI {Fi : List D → (Om → Prop) → Om → Prop} : ((biSeq A).w ρ ω Fi Ψ) = (A.w ρ ω (fun x ω1 => itemsW x ω1 Fi) Ψ) := rfl
theorem x_itL {Fi : List D → (Om → Prop) → Om → Prop} {ds : List D} : (itemsW (.lst ds) ω Fi) = (Fi ds (fun _ => True) ω) := rfl
theorem x_itT {Fi : List D → (Om → Prop) → Om → Prop} {ds : List D} : (itemsW (.tup ds) ω Fi) = (Fi ds (fun _ => True) ω) := rfl
theorem x_itC {Fi : List D → (Om → Prop) → Om → Prop} {ns : List Int} : (itemsW (.scr ns) ω Fi) = (Fi (ns.map .int) (fun _ => True) ω) := rfl
theorem x_itS {Fi : List D → (Om → Prop) → Om → Prop} : (itemsW (.str s) ω Fi) = (Fi (s.map fun c => .str [c]) (fun _ => True) ω) := rfl
theorem x_r1 {Fi : List D → (Om → Prop) → Om → Prop} : ((biRng1 As).w ρ ω Fi Ψ) = (As.w ρ ω (fun xs ω1 => rg1W xs fun j => Fi (rngD 0 j.toNat) (fun _ => True) ω1) Ψ) := rfl
theorem x_r2 {Fi : List D → (Om → Prop) → Om → Prop} : ((biRng2 As).w ρ ω Fi Ψ) = (As.w ρ ω (fun xs ω1 => rg2W xs fun i j => Fi (rngD i (j - i).toNat) (fun _ => True) ω1) Ψ) := rfl
theorem x_dk : ((bDnewK : BE K).w ρ ω Φ Ψ) = (∀ a, ω a = none → Φ (.ref a) (ω.set a (.dk []))) := rfl
theorem x_dt : ((bDnewT : BE K).w ρ ω Φ Ψ) = (∀ a, ω a = none → Φ (.ref a) (ω.set a (.dt []))) := rfl
theorem x_lc {I : BI K} {vs : List Nat} {hm ho} : ((bLc false I G T1 A vs hm ho).w ρ ω Φ Ψ) = (I.w ρ ω (fun ds chk ω1 => lcGo chk G T1 A (wipeD ρ vs) (fun out ω2 => Φ (.lst out) ω2) ds [] ω1) Ψ) := rfl
theorem x_lcO {I : BI K} {vs : List Nat} {hm ho} : ((bLc true I G T1 A vs hm ho).w ρ ω Φ Ψ) = (I.w ρ ω (fun ds chk ω1 => lcGo chk G T1 A (wipeD ρ vs) (fun out ω2 => ∀ a, ω2 a = none → Φ (.ref a) (ω2.set a (.lst out))) ds [] ω1) Ψ) := rfl
end
end T

/-! Defs by their names, their calls, the end of a law. -/
namespace T
open PySem L2
section
variable {P : Program} {w : World} {K : Fg} {mg : Str → Option Value} {base : Heap}
/-- the def at p keeps the contract W -/
def OkP (P : Program) (w : World) (K : Fg) (mg : Str → Option Value) (base : Heap) (k : Nat) (p : Str × Option Str) (ps : List Str) (W : WP) : Prop :=
  ∃ fd, FnOk P w K mg base CX0 k (He.fAd K p) fd ps (SpP K W) ∧ Binds K fd ps [] ∧ ∃ oc od osl, K.lookup (He.fAd K p) = some ⟨oc, od, .func fd, osl⟩
abbrev FnD (K : Fg) (name qual : Str) (st : Stmt) (dvs : List V) (p : Str × Option Str) : Prop := ∃ fd, FunD K name qual (defArgs st) (defBody st) (defScope st) dvs [] (He.fAd K p) fd
theorem fnPD {name qual : Str} {st : Stmt} {p : Str × Option Str} {N ps : List Str} {k : Nat} (F : FnD K name qual st [] p) (S : FnScope N ps (defScope st)) {W : WP} {n : Nat} (hn : N.length = n) (B : BS K)
    (hbi : ∀ (kV doc pm : Value) (an : Option Addr) (cdv ct : Value) (us : List Value), us.length = ps.length → bindArgs (PySem.W.fnOf name qual (defArgs st) (defBody st) (defScope st) .none kV doc pm an cdv ct) ⟨us, []⟩ = pure (ps.zip us))
    (len : ∀ ds ω Φ, W ds ω Φ → ds.length = ps.length)
    (hb : ∀ (f : Addr) (cdv : Value) (A : Around) (outer : List Env) (s : Shared) (H : Hp) (E : XK), Room k (A.deeper (PyProof.Rows.envOfC qual (defScope st) s.heap.objs.size f cdv)) → PSs (cxOf CX0 P w K mg base N qual (defScope st) f cdv A outer s H E).nox (defBody st) (B.t W0))
    (hw : ∀ ds ω Φ, W ds ω Φ → B.w (startD n ds) ω ⟨fun _ ω => Φ .non ω, Φ, fun _ _ => False, fun _ _ => False, fun _ _ _ => False⟩) : OkP P w K mg base (k + 1) p ps W := by
  obtain ⟨fd, F⟩ := F
  have lk : ∃ oc od osl, K.lookup (He.fAd K p) = some ⟨oc, od, .func fd, osl⟩ := by
    obtain ⟨oc, od, _, _, _, _, _, _, _, osl, _, h, _⟩ := F.ex
    exact ⟨oc, od, osl, h⟩
  refine ⟨fd, F.ok S (fun vs H Q E h => ?_) (fun cdv A outer s H vs Q E hr h => ⟨B.t W0, PSs.nox (hb _ cdv A outer s H E hr), ?_⟩), F.bindsN hbi, lk⟩
  · obtain ⟨z, ds, Φ, _, _, r, hW, _⟩ := h
    rw [r.length]
    exact len ds _ _ hW
  · obtain ⟨z, ds, Φ, rfl, ok, r, hW, q⟩ := h
    subst hn
    exact B.ok W0 (startD N.length ds) z (L2.start N vs) _ _ (hw ds z.o Φ hW) ok (rep_start r) ⟨fun σ2 ρ2 z2 t _ h2 => q .non z2 .non t .non h2, fun v d z2 t r2 h2 => q v z2 d t r2 h2, fun _ _ _ _ _ h => h.elim, fun _ _ _ _ _ h => h.elim, fun _ _ _ _ _ _ _ _ _ h => h.elim⟩
end
section
variable {X : Cx} {W : WX} {x : Str} {e : Expr} {es : List Expr} {As : BA X.K} {p pos : Pos}
theorem P_callE {k : Nat} {ps : List Str} {Wf : WP} (F : OkP X.prog X.w X.K X.mg X.base k (x, none) ps Wf) (hr : Room k X.A) (hm : X.mg x = some (.ref (He.ga X.K x))) (hk : PySem.W.keepIn X.K (.ref (He.ga X.K x)) = true)
    (ha : PA X (e :: es) (As.t W)) (hg : Gl X x := by rfl) (hdb : (x == ("__debug__" : Str)) = false := by decide) (he : starEach (e :: es) X.env = (false, eval e X.env) :: starEach es X.env := by rfl) (hpl : (backTo pos (starEach es X.env)).any (·.1) = false := by rfl) :
    PE X (.Call (.Name x p) (e :: es) [] pos) ((bCall0 Wf As).t W) := by
  obtain ⟨fd, F1, F2, _⟩ := F
  exact pe_call F1 hr hg hm hk F2 .nil pass0 ha hdb he hpl
theorem P_globI {i : Int} {d : D} {hr : ∀ H, Rep X.K H (.int i) d} (hm : ∃ t, X.mg x = some (.int i t)) (hg : Gl X x := by rfl) (hd : (x == ("__debug__" : Str)) = false := by decide) : PE X (.Name x pos) ((bCon (.int i) d hr : BE X.K).t W) := by
  obtain ⟨t, hm⟩ := hm
  exact pe_glob hg hm ⟨_, rfl⟩ hd
theorem P_globS {s : Str} {d : D} {hr : ∀ H, Rep X.K H (.str s) d} (hm : ∃ t, X.mg x = some (.str s t)) (hg : Gl X x := by rfl) (hd : (x == ("__debug__" : Str)) = false := by decide) : PE X (.Name x pos) ((bCon (.str s) d hr : BE X.K).t W) := by
  obtain ⟨t, hm⟩ := hm
  exact pe_glob hg hm ⟨_, rfl⟩ hd
end
/-- what a law is told of its script -/
def WLaw (n : Nat) : WP := fun ds _ Φ => ∃ ns : List Int, ds = [.scr ns] ∧ ns.length ≤ n ∧ (∀ z ∈ ns, Builtin.Int.intBits z ≤ 1048576) ∧ ∀ ω', Φ (.bl true) ω'
theorem sql_one {K : Fg} {H : Hp} {a : Addr} {xs : List V} (h : SqL K H a xs) : SqL K (fun b => if b = a then H a else none) a xs := by
  rcases h with (h | ⟨o, h⟩) | h
  · exact .inl (.inl (by show (if a = a then H a else none) = _; rw [if_pos rfl]; exact h))
  · exact .inl (.inr ⟨o, by show (if a = a then H a else none) = _; rw [if_pos rfl]; exact h⟩)
  · exact .inr h
theorem sql_nt {K : Fg} {H : Hp} {a : Addr} {xs : List V} (h : SqL K H a xs) : ∃ d : Hp, (∀ b o, d b = some o → H b = some o) ∧ (∀ b o, d b = some o → NT o) ∧ SqL K d a xs := by
  rcases h with (h | ⟨o, h⟩) | h
  · refine ⟨fun b => if b = a then some (.lst xs) else none, fun b o e => ?_, fun b o e => ?_, .inl (.inl (if_pos rfl))⟩
    · dsimp only at e
      by_cases c : b = a
      · rw [if_pos c] at e; rw [c, h]; exact e
      · rw [if_neg c] at e; cases e
    · dsimp only at e
      by_cases c : b = a
      · rw [if_pos c] at e; cases e; intro _ z; cases z
      · rw [if_neg c] at e; cases e
  · refine ⟨fun b => if b = a then some (.frz o (.lst xs)) else none, fun b o' e => ?_, fun b o' e => ?_, .inl (.inr ⟨o, if_pos rfl⟩)⟩
    · dsimp only at e
      by_cases c : b = a
      · rw [if_pos c] at e; rw [c, h]; exact e
      · rw [if_neg c] at e; cases e
    · dsimp only at e
      by_cases c : b = a
      · rw [if_pos c] at e; cases e; intro _ z; cases z
      · rw [if_neg c] at e; cases e
  · exact ⟨fun _ => none, fun b o e => (nomatch e), fun b o e => (nomatch e), .inr h⟩
theorem law_sp {K : Fg} {n : Nat} {H : Hp} {a : Addr} {ns : List Int} (h1 : ns.length ≤ n) (h2 : ∀ z ∈ ns, Builtin.Int.intBits z ≤ 1048576) (hS : SqL K H a (ns.map V.int)) (hT : NdefX.TabsN (tabsN K) H) (E : XK) : SpP K (WLaw n) [.ref a] H (fun v _ => v = .bl true) E := by
  obtain ⟨d, d1, d2, d3⟩ := sql_nt hS
  refine ⟨⟨d, H, fun _ => none, tabsN K⟩, [.scr ns], fun d _ => d = .bl true, rfl, ⟨d1, fun b c e => (nomatch e), hT, rfl, d2⟩, .cons (.scr d3) .nil, ⟨ns, rfl, h1, h2, fun _ => rfl⟩, fun v z2 d t r h => ?_⟩
  subst h; cases r; rfl
/-! ### what the head tells of the defs' tables -/
structure TabK (K : Fg) (tf : List He.Defn) : Prop where
  hd : ∀ p ∈ tf, PySem.W.codeHdIn K (He.cT K p).1 (He.cT K p).2 = true
  out : ∀ p ∈ tf, K.lookup (He.cT K p).2 = none
  all : ∀ p ∈ tabsOf K, ∃ q ∈ tf, (He.cT K q).2 = p.1
  uni : ∀ p ∈ tabsOf K, ∀ q ∈ tabsOf K, p.1 = q.1 → p.2 = q.2
def uniB : List (Addr × Str) → Bool
  | [] => true
  | p :: r => r.all (fun q => p.1 != q.1 || p.2 == q.2) && uniB r
theorem uniB_ok : ∀ {l : List (Addr × Str)}, uniB l = true → ∀ p ∈ l, ∀ q ∈ l, p.1 = q.1 → p.2 = q.2
  | [], _, _, h, _, _, _ => nomatch h
  | a :: r, h, p, hp, q, hq, e => by
    unfold uniB at h
    rw [Bool.and_eq_true, List.all_eq_true] at h
    have key : ∀ q ∈ r, a.1 = q.1 → a.2 = q.2 := fun q hq e => by
      have := h.1 q hq
      rw [e] at this
      simpa using this
    rcases List.mem_cons.mp hp with h1 | h1
    · rcases List.mem_cons.mp hq with h2 | h2
      · rw [h1, h2]
      · rw [h1]; exact key q h2 (h1 ▸ e)
    · rcases List.mem_cons.mp hq with h2 | h2
      · rw [h2]; exact (key p h1 (h2 ▸ e.symm)).symm
      · exact uniB_ok h.2 p h1 q h2 e
def inB (as : List Addr) (l : List (Addr × Str)) : Bool := l.all fun p => as.contains p.1
/-- the Bool that a hook tells besides -/
def exB (tf : List He.Defn) (K : Fg) : Bool := inB (tf.map fun q => (He.cT K q).2) (tabsOf K) && uniB (tabsOf K)
theorem tabK_of {fa : List He.Fa} {fn : List He.DefD} {tf : List He.Defn} {w : World} {h : Heap} {K : Fg} (c : He.SaysX fa fn [] tf (exB tf) w h K) : TabK K tf := by
  have e : (inB (tf.map fun q => (He.cT K q).2) (tabsOf K) && uniB (tabsOf K)) = true := c.more
  rw [Bool.and_eq_true] at e
  refine ⟨c.hd, c.out, fun p hp => ?_, uniB_ok e.2⟩
  have := List.all_eq_true.mp e.1 p hp
  rw [List.contains_iff_mem] at this
  obtain ⟨q, hq, e⟩ := List.mem_map.mp this
  exact ⟨q, hq, e⟩
abbrev TabsB (base : Heap) (mg : Str → Option Value) (K : Fg) (tf : List He.Defn) : Prop := ∀ p ∈ tf, LamX.TabB base mg (He.cT K p).1 (He.cT K p).2
/-- the end of a law -/
theorem law_at {l : PySem.W.OpenLaw} {n k : Nat} {x : Str} {mg : Str → Option Value} {fa : Addr} {h : Heap} {w : World} {K : Fg} {st : Stmt} {name : Str} {tf : List He.Defn} (KX : K.In h) (tk : TabK K tf) (he : ∀ p ∈ tf, h.get? (He.cT K p).2 = some { cls := .none, data := .fields #[] })
    (hfa : mg name = some (.ref fa)) (hga : mg name = some (.ref (He.ga K name))) (F : FnD K name name st [] (name, none))
    (hbi : ∀ (kV doc pm : Value) (an : Option Addr) (cdv ct : Value) (us : List Value), us.length = [x].length → bindArgs (PySem.W.fnOf name name (defArgs st) (defBody st) (defScope st) .none kV doc pm an cdv ct) ⟨us, []⟩ = pure ([x].zip us))
    (ok : ∀ base : Heap, K.In base → base.Ns mainGlobals mg → TabsB base mg K tf → OkP l.prog w K mg base k (name, none) [x] (WLaw n)) : LamX.LawAtS l w K CX0 k n x mg fa h := by
  obtain ⟨fd, F⟩ := F
  have e := hfa.symm.trans hga
  cases e
  obtain ⟨oc, od, _, _, _, _, _, _, _, osl, _, lk, _⟩ := F.ex
  refine ⟨fd, tf.map (He.cT K), SpP K (WLaw n), fun p hp => ?_, fun p hp => ?_, fun p hp => ?_, fun s u => F.bindsA hbi s [u] rfl, fun H a ns h1 h2 hH hS => law_sp h1 h2 hS (fun p hp => ?_) _, fun base h1 h2 hT => ?_⟩
  · obtain ⟨q, hq, rfl⟩ := List.mem_map.mp hp
    exact he q hq
  · obtain ⟨q, hq, rfl⟩ := List.mem_map.mp hp
    exact tk.out q hq
  · obtain ⟨q, hq, rfl⟩ := List.mem_map.mp hp
    exact PySem.W.codeHd_of_K KX (tk.hd q hq)
  · obtain ⟨p0, hp0, rfl⟩ := List.mem_map.mp hp
    obtain ⟨q, hq, e⟩ := tk.all p0 hp0
    have hH1 := hH (He.cT K q) (List.mem_map_of_mem hq)
    rw [e] at hH1
    exact NdefX.TabN.nil hH1
  · obtain ⟨fd2, F2, _, oc2, od2, osl2, lk2⟩ := ok base h1 h2 fun p hp => hT _ (List.mem_map_of_mem hp)
    have e := lk.symm.trans lk2
    cases e
    exact F2
/-- the def whose body runs has a table that tells the name nm -/
def LamC (X : Cx) (nm : Str) : Prop := ∃ c P, X.env.code = .ref c ∧ (P, X.env.qual ++ nm) ∈ tabsOf X.K ∧ LamX.TabB X.base X.mg c P ∧ ∀ p ∈ tabsOf X.K, p.1 = P → p.2 = X.env.qual ++ nm
section
variable {P : Program} {w : World} {K : Fg} {mg : Str → Option Value} {base : Heap}
theorem mem_of_look : ∀ {K : List (Addr × Obj)} {a : Addr} {o : Obj}, K.lookup a = some o → (a, o) ∈ K
  | [], _, _, h => nomatch h
  | (b, u) :: r, a, o, h => by
    rw [List.lookup_cons] at h
    by_cases c : a = b
    · subst c
      rw [beq_self_eq_true] at h
      cases h
      exact List.mem_cons_self
    · have e : (a == b) = false := beq_eq_false_iff_ne.mpr c
      rw [e] at h
      exact List.mem_cons_of_mem _ (mem_of_look h)
/-- a def that makes functions -/
theorem fnPL {name qual : Str} {st : Stmt} {p : Str × Option Str} {N ps : List Str} {k : Nat} {tf : List He.Defn} (tk : TabK K tf) (tb : TabsB base mg K tf) (hp : p ∈ tf) (F : FnD K name qual st [] p) (S : FnScope N ps (defScope st)) {W : WP} {n : Nat} (hn : N.length = n) (B : BS K)
    (hbi : ∀ (kV doc pm : Value) (an : Option Addr) (cdv ct : Value) (us : List Value), us.length = ps.length → bindArgs (PySem.W.fnOf name qual (defArgs st) (defBody st) (defScope st) .none kV doc pm an cdv ct) ⟨us, []⟩ = pure (ps.zip us))
    (len : ∀ ds ω Φ, W ds ω Φ → ds.length = ps.length)
    (hb : ∀ (f : Addr) (cdv : Value) (A : Around) (outer : List Env) (s : Shared) (H : Hp) (E : XK), Room k (A.deeper (PyProof.Rows.envOfC qual (defScope st) s.heap.objs.size f cdv)) → LamC (cxOf CX0 P w K mg base N qual (defScope st) f cdv A outer s H E).nox (innerOf (defBody st)) → PSs (cxOf CX0 P w K mg base N qual (defScope st) f cdv A outer s H E).nox (defBody st) (B.t W0))
    (hw : ∀ ds ω Φ, W ds ω Φ → B.w (startD n ds) ω ⟨fun _ ω => Φ .non ω, Φ, fun _ _ => False, fun _ _ => False, fun _ _ _ => False⟩) : OkP P w K mg base (k + 1) p ps W := by
  obtain ⟨fd, F⟩ := F
  have lk : ∃ oc od osl, K.lookup (He.fAd K p) = some ⟨oc, od, .func fd, osl⟩ := by
    obtain ⟨oc, od, _, _, _, _, _, _, _, osl, _, h, _⟩ := F.ex
    exact ⟨oc, od, osl, h⟩
  have F0 := F
  obtain ⟨oc, od, dV, kV, doc, pm, an, cdv, ct, osl, rfl, lk2, hcd, _, _⟩ := F.ex
  obtain ⟨c, rfl⟩ := He.codeIn_ref hcd
  have ec : He.codeOf K p = c := He.codeOf_eq lk2 rfl
  have h1 := tk.hd p hp
  have h2 := tk.out p hp
  have h3 := tb p hp
  simp only [He.cT, ec] at h1 h2 h3
  have hmem : (He.tabOf K c, qual ++ ".<locals>." ++ innerOf (defBody st)) ∈ tabsOf K := by
    refine List.mem_filterMap.mpr ⟨_, mem_of_look lk2, ?_⟩
    show (if PySem.W.codeHdIn K c (He.tabOf K c) && (K.lookup (He.tabOf K c)).isNone then some (He.tabOf K c, qual ++ ".<locals>." ++ innerOf (defBody st)) else none) = _
    rw [h1, h2]; rfl
  refine ⟨_, fn_of lk2 hcd S (fun vs H Q E h => ?_) (fun A outer s H vs Q E hr h => ⟨B.t W0, PSs.nox (hb _ (.ref c) A outer s H E hr ⟨c, _, rfl, hmem, h3, fun q hq e => ?_⟩), ?_⟩), F0.bindsN hbi, lk⟩
  · obtain ⟨z, ds, Φ, _, _, r, hW, _⟩ := h
    rw [r.length]
    exact len ds _ _ hW
  · exact tk.uni q hq _ hmem e
  · obtain ⟨z, ds, Φ, rfl, ok, r, hW, q⟩ := h
    subst hn
    exact B.ok W0 (startD N.length ds) z (L2.start N vs) _ _ (hw ds z.o Φ hW) ok (rep_start r) ⟨fun σ2 ρ2 z2 t _ h2 => q .non z2 .non t .non h2, fun v d z2 t r2 h2 => q v z2 d t r2 h2, fun _ _ _ _ _ h => h.elim, fun _ _ _ _ _ h => h.elim, fun _ _ _ _ _ _ _ _ _ h => h.elim⟩
end
end T

/-! Built-in calls and methods over data. -/
namespace T
open PySem L2
section
variable {K : Fg}
/-- the items of a list or a tuple -/
def seqOf (ω : Om) : D → Option (List D)
  | .lst ds => some ds
  | .tup ds => some ds
  | .scr ns => some (ns.map .int)
  | .ref a => match ω a with
    | some (.lst ds) => some ds
    | _ => none
  | _ => none
theorem seq_of {z : Z} (k : z.Ok K) {v : V} {d : D} {ds : List D} (r : Rep K z.d v d) (h : seqOf z.o d = some ds) : ∃ a xs, v = .ref a ∧ (SqL K z.h a xs ∨ SqT K z.h a xs) ∧ RepL K z.d xs ds := by
  cases r with
  | lst h1 h2 => cases h; exact ⟨_, _, rfl, .inl (SqL.of (k.fz _ _ h1)), h2⟩
  | tup h1 h2 => cases h; exact ⟨_, _, rfl, .inr (k.fz.sqt h1), h2⟩
  | @scr a ns h1 => cases h; exact ⟨_, _, rfl, .inl (k.fz.sql h1), .of_ints ns⟩
  | ref a =>
    cases e : z.o a with
    | none => simp [seqOf, e] at h
    | some c =>
      cases c with
      | lst es =>
        simp [seqOf, e] at h
        subst h
        obtain ⟨_, xs, h1, h2⟩ := k.cell a _ e
        exact ⟨a, xs, rfl, .inl (SqL.of h1), h2⟩
      | _ => simp [seqOf, e] at h
  | _ => simp [seqOf] at h
/-- list(x) -/
def cList (own : Bool) : CB K where
  r := fun xs H Q => ∃ p ys, xs = [.ref p] ∧ (SqL K H p ys ∨ SqT K H p ys) ∧ ∀ l, H l = none → Q (.ref l) (upd H l (.lst ys))
  w := fun ds ω Φ => match ds with
    | [d] => optW (seqOf ω d) fun es => if own = true then ∀ a, ω a = none → Φ (.ref a) (ω.set a (.lst es)) else Φ (.lst es) ω
    | _ => False
  ok := fun z xs ds Q Φ h k r q => by
    split at h
    · obtain ⟨x, rfl, r1⟩ := rep1 r
      obtain ⟨es, h1, h2⟩ := optW_iff.mp h
      obtain ⟨a, ys, rfl, ha, ry⟩ := seq_of k r1 h1
      refine ⟨a, ys, rfl, ha, fun p hp => ?_⟩
      cases own with
      | true =>
        have t := k.lay (o := .lst ys) (c := .lst es) hp ⟨_, upd_same, ry⟩
        exact q _ _ _ t (.ref p) (h2 p (k.free hp).2)
      | false =>
        have t := k.add (o := .lst ys) hp
        exact q _ _ _ t (.lst upd_same (ry.mono t.ex)) h2
    · exact h.elim
theorem call_cList {X : Cx} {b : Bool} : CallR X (.type "list") (cList (K := X.K) b).r := call_list_of
/-- tuple(x) -/
def cTuple : CB K where
  r := fun xs H Q => ∃ p ys, xs = [.ref p] ∧ ((SqL K H p ys ∧ ∀ l, H l = none → Q (.ref l) (upd H l (.tup ys))) ∨ (SqT K H p ys ∧ Q (.ref p) H))
  w := fun ds ω Φ => match ds with
    | [d] => optW (seqOf ω d) fun es => Φ (.tup es) ω
    | _ => False
  ok := fun z xs ds Q Φ h k r q => by
    split at h
    · obtain ⟨x, rfl, r1⟩ := rep1 r
      obtain ⟨es, h1, h2⟩ := optW_iff.mp h
      rename_i d
      by_cases c : ∃ us, d = .tup us
      · obtain ⟨us, rfl⟩ := c
        cases h1
        obtain ⟨a, ys, rfl, ha, ry⟩ := rep_tup r1
        exact ⟨a, ys, rfl, .inr ⟨k.fz.sqt ha, q _ z _ k.to (.tup ha ry) h2⟩⟩
      · have hl : ∃ a ys, x = .ref a ∧ SqL K z.h a ys ∧ RepL K z.d ys es := by
          cases r1 with
          | lst e1 e2 => cases h1; exact ⟨_, _, rfl, SqL.of (k.fz _ _ e1), e2⟩
          | tup e1 e2 => exact absurd ⟨_, rfl⟩ c
          | @scr a ns e1 => cases h1; exact ⟨_, _, rfl, k.fz.sql e1, .of_ints ns⟩
          | ref a =>
            cases e : z.o a with
            | none => simp [seqOf, e] at h1
            | some c =>
              cases c with
              | lst us =>
                simp [seqOf, e] at h1
                subst h1
                obtain ⟨_, ys, e1, e2⟩ := k.cell a _ e
                exact ⟨a, ys, rfl, SqL.of e1, e2⟩
              | _ => simp [seqOf, e] at h1
          | _ => simp [seqOf] at h1
        obtain ⟨a, ys, rfl, ha, ry⟩ := hl
        refine ⟨a, ys, rfl, .inl ⟨ha, fun p hp => ?_⟩⟩
        have t := k.add (o := .tup ys) hp
        exact q _ _ _ t (.tup (SqT.of upd_same) (ry.mono t.ex)) h2
    · exact h.elim
theorem call_cTuple {X : Cx} : CallR X (.type "tuple") (cTuple (K := X.K)).r := call_tuple_of
/-- the figures of a number -/
def strI (i : Int) : List Nat := TL.tl (Str.ofString (toString i))
theorem strI_nat (n : Nat) : strI (n : Int) = TL.numL n := TL.tl_num n
theorem strI_nn {i : Int} (h : 0 ≤ i) : strI i = TL.numL i.toNat := by
  obtain ⟨n, rfl⟩ := Int.eq_ofNat_of_zero_le h
  exact strI_nat n
theorem rep_strI {K : Fg} {H : Hp} (i : Int) : Rep K H (.str (Str.ofString (toString i))) (.str (strI i)) := Rep.cs _
/-- str(x) of a number, a text -/
def cStr : CB K where
  r := fun xs H Q => (∃ i : Int, xs = [.int i] ∧ i.natAbs.log2 < 1920 ∧ Q (.str (toString i)) H) ∨ ∃ a, xs = [.str a] ∧ Q (.str a) H
  w := fun ds ω Φ => match ds with
    | [.int i] => i.natAbs.log2 < 1920 ∧ Φ (.str (strI i)) ω
    | [.str s] => Φ (.str s) ω
    | _ => False
  ok := fun z xs ds Q Φ h k r q => by
    split at h
    · obtain ⟨x, rfl, r1⟩ := rep1 r
      cases r1
      exact .inl ⟨_, rfl, h.1, q _ z _ k.to (rep_strI _) h.2⟩
    · obtain ⟨x, rfl, r1⟩ := rep1 r
      cases r1
      exact .inr ⟨_, rfl, q _ z _ k.to (.str _) h⟩
    · exact h.elim
theorem call_cStr {X : Cx} : CallR X (.type "str") (cStr (K := X.K)).r := CallR.or call_str_int SkE.call_str_str
def isFig (c : Nat) : Bool := decide (48 ≤ c) && decide (c ≤ 57)
def figV (s : List Nat) : Nat := NumText.digitsVal s
/-- int(x) of a number, a truth, figures -/
def cInt : CB K where
  r := fun xs H Q => ((∃ i, xs = [.int i] ∧ Q (.int i) H) ∨ ∃ k, xs = [.bl k] ∧ Q (.int (if k then 1 else 0)) H) ∨ ∃ a n, xs = [.str a] ∧ PySem.intText? a = some n ∧ a.length ≤ 640 ∧ Q (.int n) H
  w := fun ds ω Φ => match ds with
    | [.int i] => Φ (.int i) ω
    | [.bl b] => Φ (.int (if b = true then 1 else 0)) ω
    | [.str s] => (s ≠ [] ∧ s.length ≤ 640 ∧ s.all isFig = true) ∧ Φ (.int (figV s : Nat)) ω
    | _ => False
  ok := fun z xs ds Q Φ h k r q => by
    split at h
    · obtain ⟨x, rfl, r1⟩ := rep1 r
      cases r1
      exact .inl (.inl ⟨_, rfl, q _ z _ k.to (.int _) h⟩)
    · obtain ⟨x, rfl, r1⟩ := rep1 r
      cases r1
      exact .inl (.inr ⟨_, rfl, q _ z _ k.to (.int _) h⟩)
    · obtain ⟨x, rfl, r1⟩ := rep1 r
      cases r1
      obtain ⟨⟨h1, h2, h3⟩, h4⟩ := h
      exact .inr ⟨_, _, rfl, SX.int_S h3 h1 (by omega), by rw [sOf_len]; omega, q _ z _ k.to (.int _) h4⟩
    · exact h.elim
theorem call_cInt {X : Cx} : CallR X (.type "int") (cInt (K := X.K)).r := CallR.or call_int1 call_int_str
def cOrd : CB K where
  r := fun xs H Q => ∃ x, xs = [.str x] ∧ x.length = 1 ∧ Q (.int (x.cps.getD 0 0 : Nat)) H
  w := fun ds ω Φ => match ds with
    | [.str [c]] => Φ (.int (c : Nat)) ω
    | _ => False
  ok := fun z xs ds Q Φ h k r q => by
    split at h
    · obtain ⟨x, rfl, r1⟩ := rep1 r
      cases r1
      exact ⟨_, rfl, rfl, q _ z _ k.to (.int _) h⟩
    · exact h.elim
theorem call_cOrd {X : Cx} : CallR X (.builtin "ord") (cOrd (K := X.K)).r := call_ord
/-- the numbers of a list -/
def intsOf : List D → Option (List Int)
  | [] => some []
  | .int i :: r => (intsOf r).map (i :: ·)
  | _ => none
theorem intsOf_map : ∀ ns : List Int, intsOf (ns.map .int) = some ns
  | [] => rfl
  | n :: r => by show (intsOf (r.map .int)).map (n :: ·) = _; rw [intsOf_map r]; rfl
theorem intsOf_eq : ∀ {ds : List D} {ns : List Int}, intsOf ds = some ns → ds = ns.map .int
  | [], ns, h => by simp [intsOf] at h; subst h; rfl
  | .int b :: r, ns, h => by
    simp only [intsOf] at h
    cases e : intsOf r with
    | none => rw [e] at h; cases h
    | some cs => rw [e] at h; cases h; rw [intsOf_eq e]; rfl
  | .non :: _, _, h => by cases h
  | .bl _ :: _, _, h => by cases h
  | .str _ :: _, _, h => by cases h
  | .tup _ :: _, _, h => by cases h
  | .lst _ :: _, _, h => by cases h
  | .ref _ :: _, _, h => by cases h
  | .scr _ :: _, _, h => by cases h
  | .exn .. :: _, _, h => by cases h
  | .clo .. :: _, _, h => by cases h
/-- the texts of a list -/
def strsOf : List D → Option (List (List Nat))
  | [] => some []
  | .str i :: r => (strsOf r).map (i :: ·)
  | _ => none
theorem strsOf_map : ∀ ns : List (List Nat), strsOf (ns.map .str) = some ns
  | [] => rfl
  | n :: r => by show (strsOf (r.map .str)).map (n :: ·) = _; rw [strsOf_map r]; rfl
theorem strsOf_eq : ∀ {ds : List D} {ns : List (List Nat)}, strsOf ds = some ns → ds = ns.map .str
  | [], ns, h => by simp [strsOf] at h; subst h; rfl
  | .str b :: r, ns, h => by
    simp only [strsOf] at h
    cases e : strsOf r with
    | none => rw [e] at h; cases h
    | some cs => rw [e] at h; cases h; rw [strsOf_eq e]; rfl
  | .non :: _, _, h => by cases h
  | .bl _ :: _, _, h => by cases h
  | .int _ :: _, _, h => by cases h
  | .tup _ :: _, _, h => by cases h
  | .lst _ :: _, _, h => by cases h
  | .ref _ :: _, _, h => by cases h
  | .scr _ :: _, _, h => by cases h
  | .exn .. :: _, _, h => by cases h
  | .clo .. :: _, _, h => by cases h
/-- what is read as a list by len, sum, max, ..: a list's items -/
theorem lstOf_seq {z : Z} (k : z.Ok K) {v : V} {d : D} {ds : List D} (r : Rep K z.d v d) (h : lstOf z.o d = some ds) : ∃ a xs, v = .ref a ∧ SqL K z.h a xs ∧ RepL K z.d xs ds := by
  obtain ⟨a, xs, e, h1, h2⟩ := lst_of k r h
  exact ⟨a, xs, e, SqL.of h1, h2⟩
def cSum : CB K where
  r := rSum K
  w := fun ds ω Φ => match ds with
    | [d] => optW (lstOf ω d) fun es => optW (intsOf es) fun ns => Φ (.int ns.sum) ω
    | _ => False
  ok := fun z xs ds Q Φ h k r q => by
    split at h
    · obtain ⟨x, rfl, r1⟩ := rep1 r
      obtain ⟨es, h1, h⟩ := optW_iff.mp h
      obtain ⟨ns, h2, h⟩ := optW_iff.mp h
      obtain ⟨a, ys, rfl, ha, ry⟩ := lstOf_seq k r1 h1
      rw [intsOf_eq h2] at ry
      rw [RepL.ints ry] at ha
      exact ⟨a, ns, rfl, ha, q _ z _ k.to (.int _) h⟩
    · exact h.elim
theorem call_cSum {X : Cx} (hc : X.calm = true := by rfl) : CallR X (.builtin "sum") (cSum (K := X.K)).r := cr_sum hc
def cMaxL : CB K where
  r := rMax K
  w := fun ds ω Φ => match ds with
    | [d] => optW (lstOf ω d) fun es => optW (intsOf es) fun ns => ns ≠ [] ∧ ∀ m, m ∈ ns → (∀ y, y ∈ ns → y ≤ m) → Φ (.int m) ω
    | _ => False
  ok := fun z xs ds Q Φ h k r q => by
    split at h
    · obtain ⟨x, rfl, r1⟩ := rep1 r
      obtain ⟨es, h1, h⟩ := optW_iff.mp h
      obtain ⟨ns, h2, h3, h⟩ := optW_iff.mp h
      obtain ⟨a, ys, rfl, ha, ry⟩ := lstOf_seq k r1 h1
      rw [intsOf_eq h2] at ry
      rw [RepL.ints ry] at ha
      exact ⟨a, ns, rfl, ha, List.length_pos_iff.mpr h3, fun m m1 m2 => q _ z _ k.to (.int _) (h m m1 m2)⟩
    · exact h.elim
theorem call_cMaxL {X : Cx} (hc : X.calm = true := by rfl) : CallR X (.builtin "max") (cMaxL (K := X.K)).r := cr_max hc
def cMinL : CB K where
  r := rMin K
  w := fun ds ω Φ => match ds with
    | [d] => optW (lstOf ω d) fun es => optW (intsOf es) fun ns => ns ≠ [] ∧ ∀ m, m ∈ ns → (∀ y, y ∈ ns → m ≤ y) → Φ (.int m) ω
    | _ => False
  ok := fun z xs ds Q Φ h k r q => by
    split at h
    · obtain ⟨x, rfl, r1⟩ := rep1 r
      obtain ⟨es, h1, h⟩ := optW_iff.mp h
      obtain ⟨ns, h2, h3, h⟩ := optW_iff.mp h
      obtain ⟨a, ys, rfl, ha, ry⟩ := lstOf_seq k r1 h1
      rw [intsOf_eq h2] at ry
      rw [RepL.ints ry] at ha
      exact ⟨a, ns, rfl, ha, List.length_pos_iff.mpr h3, fun m m1 m2 => q _ z _ k.to (.int _) (h m m1 m2)⟩
    · exact h.elim
theorem call_cMinL {X : Cx} (hc : X.calm = true := by rfl) : CallR X (.builtin "min") (cMinL (K := X.K)).r := cr_min hc
def cAny : CB K where
  r := rAny K
  w := fun ds ω Φ => match ds with
    | [d] => optW (lstOf ω d) fun es => optW (blsOf es) fun bs => Φ (.bl (bs.any id)) ω
    | _ => False
  ok := fun z xs ds Q Φ h k r q => by
    split at h
    · obtain ⟨x, rfl, r1⟩ := rep1 r
      obtain ⟨es, h1, h⟩ := optW_iff.mp h
      obtain ⟨ns, h2, h⟩ := optW_iff.mp h
      obtain ⟨a, ys, rfl, ha, ry⟩ := lstOf_seq k r1 h1
      rw [blsOf_eq h2] at ry
      rw [RepL.bls ry] at ha
      exact ⟨a, ns, rfl, ha, q _ z _ k.to (.bl _) h⟩
    · exact h.elim
theorem call_cAny {X : Cx} (hc : X.calm = true := by rfl) : CallR X (.builtin "any") (cAny (K := X.K)).r := cr_any hc
/-- tuple * number -/
def rRepTA (K : Fg) : R2 := fun x y H Q => ∃ l k xs, x = .ref l ∧ y = .int k ∧ SqT K H l xs ∧ xs ≠ [] ∧ 2 ≤ k ∧ k ≤ 1000 ∧ xs.length ≤ 1000 ∧ ∀ p, H p = none → Q (.ref p) (upd H p (.tup (List.replicate k.toNat xs).flatten))

/-! ### methods -/
structure BM (K : Fg) where
  r : V → List V → Hp → VK → Prop
  w : D → List D → Om → (D → Om → Prop) → Prop
  ok : ∀ (z : Z) (x : V) (xs : List V) (d : D) (ds : List D) (Q : VK) (Φ : D → Om → Prop), w d ds z.o Φ → z.Ok K → Rep K z.d x d → RepL K z.d xs ds → (∀ v z2 c, To K z z2 → Rep K z2.d v c → Φ c z2.o → Q v z2.h) → r x xs z.h Q
/-- the type of what a method is called of -/
def tyM (ω : Om) (d : D) : String := match d with
  | .str _ => "str"
  | .int _ => "int"
  | .lst _ => "list"
  | .scr _ => "list"
  | .ref a => match ω a with
    | some (.lst _) => "list"
    | some (.dk _) => "dict"
    | some (.dt _) => "dict"
    | _ => ""
  | _ => ""
theorem tyM_rep {z : Z} (k : z.Ok K) {v : V} {d : D} {T : String} (r : Rep K z.d v d) (h : tyM z.o d = T) (hT : T ≠ "") : tyV K T v z.h := by
  subst h
  cases r with
  | str s => exact rfl
  | int i => exact rfl
  | lst h1 h2 => exact .inl ⟨rfl, _, SqL.of (k.fz _ _ h1)⟩
  | scr h1 => exact .inl ⟨rfl, _, k.fz.sql h1⟩
  | ref a =>
    unfold tyM at hT ⊢
    simp only at hT ⊢
    split at hT
    · rename_i ds hc
      obtain ⟨_, xs, h1, _⟩ := k.cell a _ hc
      exact .inl ⟨rfl, xs, SqL.of h1⟩
    · rename_i ds hc
      obtain ⟨_, xs, h1, _⟩ := k.cell a _ hc
      exact .inr (.inr (.inl ⟨rfl, .inl ⟨_, h1⟩⟩))
    · rename_i ds hc
      obtain ⟨_, xs, h1, _⟩ := k.cell a _ hc
      exact .inr (.inr (.inl ⟨rfl, .inr ⟨_, h1⟩⟩))
    · exact absurd rfl hT
  | _ => exact absurd rfl hT
def bM (Ty : String) (hT : Ty ≠ "") (m : BM K) (o : BE K) (a : BA K) : BE K where
  t := fun W => tBM K Ty m.r (o.t W) (a.t W)
  w := fun ρ ω Φ Ψ => o.w ρ ω (fun x ω1 => tyM ω1 x = Ty ∧ a.w ρ ω1 (fun xs ω2 => m.w x xs ω2 Φ) Ψ) Ψ
  ok := fun W ρ z σ Q Φ Ψ h k r q qx => by
    refine o.ok W ρ z σ _ _ Ψ h k r (fun x z1 d t1 r1 h1 => ?_) qx
    refine ⟨tyM_rep t1.ok r1 h1.1 hT, ?_⟩
    refine a.ok W ρ z1 σ _ _ Ψ h1.2 t1.ok (r.mono t1.ex) (fun xs z2 ds t2 r2 h2 => ?_) fun x cls d z2 t2 => qx x cls d z2 (t1.trans t2)
    exact m.ok z2 x xs d ds Q Φ h2 t2.ok (r1.mono t2.ex) r2 fun v z3 c t3 => q v z3 c ((t1.trans t2).trans t3)
def bM0 (Ty : String) (hT : Ty ≠ "") (m : BM K) (o : BE K) : BE K where
  t := fun W => tBM0 K Ty m.r (o.t W)
  w := fun ρ ω Φ Ψ => o.w ρ ω (fun x ω1 => tyM ω1 x = Ty ∧ m.w x [] ω1 Φ) Ψ
  ok := fun W ρ z σ Q Φ Ψ h k r q qx => by
    refine o.ok W ρ z σ _ _ Ψ h k r (fun x z1 d t1 r1 h1 => ?_) qx
    exact ⟨tyM_rep t1.ok r1 h1.1 hT, m.ok z1 x [] d [] Q Φ h1.2 t1.ok r1 .nil fun v z3 c t3 => q v z3 c (t1.trans t3)⟩
section
variable {X : Cx} {o e : Expr} {es : List Expr} {O A : BE X.K} {As : BA X.K} {W : WX} {name : Str} {apos cpos : Pos} {Ty id : String}
theorem P_M {hT : Ty ≠ ""} {m : BM X.K} (pa : PlainAttrs Ty) (slot : Slot Ty name id) (hty : typeOf (.builtin id) = pure (.type "method_descriptor")) (hm : MtR X id m.r) (ho : PE X o (O.t W)) (ha : PA X (e :: es) (As.t W))
    (hbase : attributeBase o name X.env (eval o X.env) = eval o X.env := by rfl)
    (hfew : ((backTo cpos (starEach (e :: es) X.env)).all (fun x => !x.1) && (backToKw cpos (keywordEach [] X.env)).all (fun x => x.1.isSome)
      && decide ((e :: es).length + ([] : List Keyword).length + (if ([] : List Keyword).isEmpty then 0 else 1) < 30)) = true := by rfl)
    (hline : (apos.endLine == cpos.line) = true := by rfl) (hs : starEach (e :: es) X.env = (false, eval e X.env) :: starEach es X.env := by rfl) (hplain : (backTo cpos (starEach es X.env)).any (·.1) = false := by rfl) :
    PE X (.Call (.Attribute o name apos) (e :: es) [] cpos) ((bM Ty hT m O As).t W) := pe_bm pa slot hty hm ho ha hbase hfew hline hs hplain
theorem P_M0 {hT : Ty ≠ ""} {m : BM X.K} (pa : PlainAttrs Ty) (slot : Slot Ty name id) (hty : typeOf (.builtin id) = pure (.type "method_descriptor")) (hm : MtR X id m.r) (ho : PE X o (O.t W))
    (hbase : attributeBase o name X.env (eval o X.env) = eval o X.env := by rfl) (hline : (apos.endLine == cpos.line) = true := by rfl) : PE X (.Call (.Attribute o name apos) [] [] cpos) ((bM0 Ty hT m O).t W) := pe_bm0 pa slot hty hm ho hbase hline
end
/-! lists that may change -/
def m_append : BM K where
  r := rAppend
  w := fun x xs ω Φ => match x, xs with
    | .ref a, [y] => cL (ω a) fun ds => ds.length < 16777216 ∧ Φ .non (ω.set a (.lst (ds ++ [y])))
    | _, _ => False
  ok := fun z x xs d ds Q Φ h k r rs q => by
    split at h
    · cases r
      obtain ⟨es, hc, h1, h2⟩ := cL_iff.mp h
      obtain ⟨y, rfl, ry⟩ := rep1 rs
      obtain ⟨_, ys, g1, g2⟩ := k.cell _ _ hc
      refine ⟨_, ys, y, rfl, rfl, g1, by rw [g2.length, sizeLine_eq]; exact h1, ?_⟩
      have t := k.put (o := .lst (ys ++ [y])) (c' := .lst (es ++ [_])) hc ⟨_, upd_same, g2.append (.cons ry .nil)⟩
      exact q _ _ _ t .non h2
    · exact h.elim
theorem mt_append_ {X : Cx} : MtR X "list.append" (m_append (K := X.K)).r := mt_append
def m_extend : BM K where
  r := rExtend
  w := fun x xs ω Φ => match x, xs with
    | .ref a, [y] => cL (ω a) fun ds => optW (lstOf ω y) fun es => ds.length + es.length ≤ 16777216 ∧ Φ .non (ω.set a (.lst (ds ++ es)))
    | _, _ => False
  ok := fun z x xs d ds Q Φ h k r rs q => by
    split at h
    · cases r
      obtain ⟨es, hc, h⟩ := cL_iff.mp h
      obtain ⟨us, h1, h2, h3⟩ := optW_iff.mp h
      obtain ⟨y, rfl, ry⟩ := rep1 rs
      obtain ⟨b, ws, rfl, hb, rb⟩ := lst_of k ry h1
      obtain ⟨_, ys, g1, g2⟩ := k.cell _ _ hc
      refine ⟨_, b, ys, ws, rfl, rfl, g1, hb, by rw [g2.length, rb.length, sizeLine_eq]; exact h2, ?_⟩
      have t := k.put (o := .lst (ys ++ ws)) (c' := .lst (es ++ us)) hc ⟨_, upd_same, g2.append rb⟩
      exact q _ _ _ t .non h3
    · exact h.elim
theorem mt_extend_ {X : Cx} : MtR X "list.extend" (m_extend (K := X.K)).r := mt_extend
theorem RepL.dropLast {H : Hp} : ∀ {vs : List V} {ds : List D}, RepL K H vs ds → RepL K H vs.dropLast ds.dropLast := fun {vs ds} h => by
  rw [List.dropLast_eq_take, List.dropLast_eq_take, h.length]
  exact h.take _
theorem RepL.eraseIdx {H : Hp} : ∀ {vs : List V} {ds : List D} (i : Nat), RepL K H vs ds → RepL K H (vs.eraseIdx i) (ds.eraseIdx i)
  | _, _, _, .nil => .nil
  | _, _, 0, .cons _ t => t
  | _, _, i + 1, .cons r t => .cons r (RepL.eraseIdx i t)
def m_pop : BM K where
  r := rPop
  w := fun x xs ω Φ => match x, xs with
    | .ref a, [] => cL (ω a) fun ds => optW (ds[ds.length - 1]?) fun d => Φ d (ω.set a (.lst ds.dropLast))
    | _, _ => False
  ok := fun z x xs d ds Q Φ h k r rs q => by
    split at h
    · cases r
      obtain ⟨es, hc, h⟩ := cL_iff.mp h
      obtain ⟨y, h1, h2⟩ := optW_iff.mp h
      cases rs
      obtain ⟨_, ys, g1, g2⟩ := k.cell _ _ hc
      obtain ⟨v, hv, rv⟩ := g2.get h1
      refine ⟨_, ys, v, rfl, rfl, g1, by rw [g2.length]; exact hv, ?_⟩
      have t := k.put (o := .lst ys.dropLast) (c' := .lst es.dropLast) hc ⟨_, upd_same, g2.dropLast⟩
      exact q _ _ _ t rv h2
    · exact h.elim
theorem mt_pop_ {X : Cx} : MtR X "list.pop" (m_pop (K := X.K)).r := mt_pop
def m_popAt : BM K where
  r := rPopAt
  w := fun x xs ω Φ => match x, xs with
    | .ref a, [.int i] => cL (ω a) fun ds => (-9223372036854775808 ≤ i ∧ i < 9223372036854775808) ∧ optW (seqIndex? i ds.length) fun k => optW (ds[k]?) fun d => Φ d (ω.set a (.lst (ds.eraseIdx k)))
    | _, _ => False
  ok := fun z x xs d ds Q Φ h k r rs q => by
    split at h
    · cases r
      obtain ⟨es, hc, h0, h⟩ := cL_iff.mp h
      obtain ⟨j, h1, h⟩ := optW_iff.mp h
      obtain ⟨y, h2, h3⟩ := optW_iff.mp h
      obtain ⟨u, rfl, ru⟩ := rep1 rs
      cases ru
      obtain ⟨_, ys, g1, g2⟩ := k.cell _ _ hc
      obtain ⟨v, hv, rv⟩ := g2.get h2
      refine ⟨_, ys, _, j, v, rfl, rfl, g1, h0.1, h0.2, by rw [g2.length]; exact h1, hv, ?_⟩
      have t := k.put (o := .lst (ys.eraseIdx j)) (c' := .lst (es.eraseIdx j)) hc ⟨_, upd_same, g2.eraseIdx j⟩
      exact q _ _ _ t rv h3
    · exact h.elim
theorem mt_popAt_ {X : Cx} : MtR X "list.pop" (m_popAt (K := X.K)).r := mt_popAt
def m_reverse : BM K where
  r := rReverse
  w := fun x xs ω Φ => match x, xs with
    | .ref a, [] => cL (ω a) fun ds => Φ .non (ω.set a (.lst ds.reverse))
    | _, _ => False
  ok := fun z x xs d ds Q Φ h k r rs q => by
    split at h
    · cases r
      obtain ⟨es, hc, h⟩ := cL_iff.mp h
      cases rs
      obtain ⟨_, ys, g1, g2⟩ := k.cell _ _ hc
      refine ⟨_, ys, rfl, rfl, g1, ?_⟩
      have t := k.put (o := .lst ys.reverse) (c' := .lst es.reverse) hc ⟨_, upd_same, g2.reverse⟩
      exact q _ _ _ t .non h
    · exact h.elim
theorem mt_reverse_ {X : Cx} : MtR X "list.reverse" (m_reverse (K := X.K)).r := mt_reverse
def m_clear : BM K where
  r := rClear
  w := fun x xs ω Φ => match x, xs with
    | .ref a, [] => cL (ω a) fun ds => Φ .non (ω.set a (.lst []))
    | _, _ => False
  ok := fun z x xs d ds Q Φ h k r rs q => by
    split at h
    · cases r
      obtain ⟨es, hc, h⟩ := cL_iff.mp h
      cases rs
      obtain ⟨_, ys, g1, g2⟩ := k.cell _ _ hc
      refine ⟨_, ys, rfl, rfl, g1, ?_⟩
      have t := k.put (o := .lst []) (c' := .lst []) hc ⟨_, upd_same, .nil⟩
      exact q _ _ _ t .non h
    · exact h.elim
theorem mt_clear_ {X : Cx} : MtR X "list.clear" (m_clear (K := X.K)).r := mt_clear
def m_insert : BM K where
  r := fun x vs H Q => ∃ (l : Addr) (xs : List V) (i : Int) (y : V), x = .ref l ∧ vs = [.int i, y] ∧ H l = some (.lst xs) ∧ xs.length < sizeLine ∧ 0 ≤ i ∧ i < 2 ^ 63 ∧ Q .non (upd H l (.lst (xs.take i.toNat ++ [y] ++ xs.drop i.toNat)))
  w := fun x xs ω Φ => match x, xs with
    | .ref a, [.int i, y] => cL (ω a) fun ds => (ds.length < 16777216 ∧ 0 ≤ i ∧ i < 9223372036854775808) ∧ Φ .non (ω.set a (.lst (ds.take i.toNat ++ [y] ++ ds.drop i.toNat)))
    | _, _ => False
  ok := fun z x xs d ds Q Φ h k r rs q => by
    split at h
    · rename_i a i y
      cases r
      obtain ⟨es, hc, h0, h⟩ := cL_iff.mp h
      obtain ⟨u, v, rfl, ru, rv⟩ := rep2 rs
      cases ru
      obtain ⟨_, ys, g1, g2⟩ := k.cell _ _ hc
      refine ⟨_, ys, _, v, rfl, rfl, g1, by rw [g2.length, sizeLine_eq]; exact h0.1, h0.2.1, h0.2.2, ?_⟩
      have t := k.put (o := .lst (ys.take i.toNat ++ [v] ++ ys.drop i.toNat)) (c' := .lst (es.take i.toNat ++ [y] ++ es.drop i.toNat)) hc ⟨_, upd_same, ((g2.take _).append (.cons rv .nil)).append (g2.drop _)⟩
      exact q _ _ _ t .non h
    · exact h.elim
theorem mt_insert_ {X : Cx} : MtR X "list.insert" (m_insert (K := X.K)).r := mt_insert
/-! texts -/
def lstStr : List (List Nat) → D := fun l => .lst (l.map .str)
def m_split : BM K where
  r := fun x xs H Q => ∃ a b, x = .str a ∧ xs = [.str b] ∧ (b.length == 0) = false ∧ a.length + 2 ≤ sizeLine ∧ rNewStrs (Txt.split a b) H Q
  w := fun x xs ω Φ => match x, xs with
    | .str s, [.str t] => (t ≠ [] ∧ t.all (· < 256) = true ∧ s.length + 2 ≤ 16777216) ∧ Φ (.lst ((TL.spl t 0 [] s).map .str)) ω
    | _, _ => False
  ok := fun z x xs d ds Q Φ h k r rs q => by
    split at h
    · rename_i s t
      cases r
      obtain ⟨⟨h1, h2, h3⟩, h⟩ := h
      obtain ⟨u, rfl, ru⟩ := rep1 rs
      cases ru
      have e := TL.split_spl (⟨s.toArray⟩ : Str) (⟨t.toArray⟩ : Str) h1 (TL.kind_ok (by simpa using h2))
      refine ⟨_, _, rfl, rfl, ?_, by rw [sOf_len, sizeLine_eq]; exact h3, fun p hp => ?_⟩
      · rw [sOf_len]; cases t with
        | nil => exact absurd rfl h1
        | cons => rfl
      · have t1 := k.add (o := .lst ((Txt.split (⟨s.toArray⟩ : Str) (⟨t.toArray⟩ : Str)).map V.str)) hp
        refine q _ _ _ t1 (.lst upd_same ?_) h
        have e2 : (Txt.split (⟨s.toArray⟩ : Str) (⟨t.toArray⟩ : Str)) = (TL.spl t 0 [] s).map sOf := by
          refine TL.map_tl_inj (e.trans ?_)
          rw [List.map_map]
          show TL.spl t 0 [] s = _
          have : (TL.tl ∘ sOf) = id := by funext l; rfl
          rw [this, List.map_id]
        rw [e2]
        exact .of_strs _
    · exact h.elim
theorem mt_split_ {X : Cx} : MtR X "str.split" (m_split (K := X.K)).r := mt_split
/-- the three parts -/
def parL (s t : List Nat) : List (List Nat) := match TL.par t [] s with
  | some (a, b) => [a, t, b]
  | none => [s, [], []]
def m_partition : BM K where
  r := fun x xs H Q => ∃ a b, x = .str a ∧ xs = [.str b] ∧ (b.length == 0) = false ∧ a.length ≤ sizeLine ∧ ∀ p, H p = none → Q (.ref p) (upd H p (.tup [.str (Txt.partition a b).1, .str (Txt.partition a b).2.1, .str (Txt.partition a b).2.2]))
  w := fun x xs ω Φ => match x, xs with
    | .str s, [.str t] => (t ≠ [] ∧ s.length ≤ 16777216) ∧ Φ (.tup ((parL s t).map .str)) ω
    | _, _ => False
  ok := fun z x xs d ds Q Φ h k r rs q => by
    split at h
    · rename_i s t
      cases r
      obtain ⟨⟨h1, h3⟩, h⟩ := h
      obtain ⟨u, rfl, ru⟩ := rep1 rs
      cases ru
      refine ⟨_, _, rfl, rfl, ?_, by rw [sOf_len, sizeLine_eq]; exact h3, fun p hp => ?_⟩
      · rw [sOf_len]; cases t with
        | nil => exact absurd rfl h1
        | cons => rfl
      · rw [TL.partition_par _ _ (show TL.tl (⟨t.toArray⟩ : Str) ≠ [] from h1)]
        show Q (.ref p) (upd z.h p (.tup [.str (match TL.par t [] s with | some (a, b) => ((⟨a.toArray⟩ : Str), (⟨t.toArray⟩ : Str), (⟨b.toArray⟩ : Str)) | none => ((⟨s.toArray⟩ : Str), Str.empty, Str.empty)).1, .str (match TL.par t [] s with | some (a, b) => ((⟨a.toArray⟩ : Str), (⟨t.toArray⟩ : Str), (⟨b.toArray⟩ : Str)) | none => ((⟨s.toArray⟩ : Str), Str.empty, Str.empty)).2.1, .str (match TL.par t [] s with | some (a, b) => ((⟨a.toArray⟩ : Str), (⟨t.toArray⟩ : Str), (⟨b.toArray⟩ : Str)) | none => ((⟨s.toArray⟩ : Str), Str.empty, Str.empty)).2.2]))
        unfold parL at h
        cases e : TL.par t [] s with
        | none =>
          rw [e] at h
          have t1 := k.add (o := .tup [.str (⟨s.toArray⟩ : Str), .str Str.empty, .str Str.empty]) hp
          exact q _ _ _ t1 (.tup (SqT.of upd_same) (.cons (.str s) (.cons (.str []) (.cons (.str []) .nil)))) h
        | some ab =>
          rw [e] at h
          obtain ⟨a, b⟩ := ab
          have t1 := k.add (o := .tup [.str (⟨a.toArray⟩ : Str), .str (⟨t.toArray⟩ : Str), .str (⟨b.toArray⟩ : Str)]) hp
          exact q _ _ _ t1 (.tup (SqT.of upd_same) (.cons (.str a) (.cons (.str t) (.cons (.str b) .nil)))) h
    · exact h.elim
theorem mt_partition_ {X : Cx} : MtR X "str.partition" (m_partition (K := X.K)).r := mt_partition
def m_join : BM K where
  r := fun x xs H Q => ∃ a p, ∃ ys : List Str, x = .str a ∧ xs = [.ref p] ∧ (SqL K H p (ys.map V.str) ∨ SqT K H p (ys.map V.str)) ∧ (ys.map (·.length)).sum + ys.length * a.length ≤ 16777216 ∧ Q (.str (Txt.join a ys)) H
  w := fun x xs ω Φ => match x, xs with
    | .str s, [y] => optW (seqOf ω y) fun es => optW (strsOf es) fun ts => (ts.map (·.length)).sum + ts.length * s.length ≤ 16777216 ∧ Φ (.str (TL.joinL s ts)) ω
    | _, _ => False
  ok := fun z x xs d ds Q Φ h k r rs q => by
    split at h
    · rename_i s y
      cases r
      obtain ⟨es, h1, h⟩ := optW_iff.mp h
      obtain ⟨ts, h2, h3, h⟩ := optW_iff.mp h
      obtain ⟨u, rfl, ru⟩ := rep1 rs
      obtain ⟨a, ys, rfl, ha, ry⟩ := seq_of k ru h1
      rw [strsOf_eq h2] at ry
      rw [RepL.strs ry] at ha
      have em : ((ts.map sOf).map (·.length)) = ts.map (·.length) := by
        rw [List.map_map]; refine List.map_congr_left fun l _ => sOf_len l
      refine ⟨_, a, ts.map sOf, rfl, rfl, ha, by rw [em, List.length_map, sOf_len]; exact h3, ?_⟩
      rw [TL.join_eq]
      have e2 : Str.join (⟨s.toArray⟩ : Str) (ts.map sOf) = ⟨(TL.joinL s ts).toArray⟩ := by
        refine TL.ext_tl ?_
        rw [TL.tl_join, List.map_map]
        have : (TL.tl ∘ sOf) = id := by funext l; rfl
        rw [this, List.map_id]
      rw [e2]
      exact q _ z _ k.to (.str _) h
    · exact h.elim
theorem mt_join_ {X : Cx} : MtR X "str.join" (m_join (K := X.K)).r := mt_join
/-- noughts ahead -/
def zfL (s : List Nat) (n : Nat) : List Nat := List.replicate (n - s.length) 48 ++ s
theorem zf_eq {s : List Nat} {i : Int} (h : s.head? ≠ some 43) (g : s.head? ≠ some 45) : Txt.zfill (⟨s.toArray⟩ : Str) i = ⟨(zfL s i.toNat).toArray⟩ := by
  unfold Txt.zfill zfL
  rw [sOf_len]
  by_cases c : i ≤ s.length
  · rw [if_pos c, show i.toNat - s.length = 0 by omega]; rfl
  · rw [if_neg c]
    unfold zfilled
    have e : (⟨s.toArray⟩ : Str).cps[0]? = s.head? := by simp [List.head?_eq_getElem?]
    rw [e]
    split
    · rename_i e2; exact absurd e2 h
    · rename_i e2; exact absurd e2 g
    · unfold Builtin.Str.padded
      refine TL.ext_tl ?_
      simp [TL.tl]
def m_zfill : BM K where
  r := fun x xs H Q => ∃ (a : Str) (i : Int), x = .str a ∧ xs = [.int i] ∧ PadOk i = true ∧ Q (.str (Txt.zfill a i)) H
  w := fun x xs ω Φ => match x, xs with
    | .str s, [.int i] => ((0 ≤ i ∧ i ≤ 1000) ∧ s.head? ≠ some 43 ∧ s.head? ≠ some 45) ∧ Φ (.str (zfL s i.toNat)) ω
    | _, _ => False
  ok := fun z x xs d ds Q Φ h k r rs q => by
    split at h
    · rename_i s i
      cases r
      obtain ⟨u, rfl, ru⟩ := rep1 rs
      cases ru
      refine ⟨_, i, rfl, rfl, ?_, ?_⟩
      · unfold PadOk
        rw [Bool.and_eq_true]
        refine ⟨?_, ?_⟩
        · unfold fitsSsize
          simp; omega
        · unfold Builtin.Str.tooLong
          rw [sizeLine_eq]
          simp; omega
      · rw [zf_eq h.1.2.1 h.1.2.2]
        exact q _ z _ k.to (.str _) h.2
    · exact h.elim
theorem mt_zfill_ {X : Cx} : MtR X "str.zfill" (m_zfill (K := X.K)).r := mt_zfill
/-- the place of a sign that stands in a text but once -/
def m_sindex : BM K where
  r := fun x xs H Q => ∃ a b i rest, x = .str a ∧ xs = [.str b] ∧ Builtin.Str.occurrences a b 0 a.length 1 = i :: rest ∧ Q (.int (i : Nat)) H
  w := fun x xs ω Φ => match x, xs with
    | .str s, [.str [c]] => c ∈ s ∧ ∀ i : Nat, s[i]? = some c → Φ (.int i) ω
    | _, _ => False
  ok := fun z x xs d ds Q Φ h k r rs q => by
    split at h
    · rename_i s c
      cases r
      obtain ⟨u, rfl, ru⟩ := rep1 rs
      cases ru
      have f := StrLaws.found_one (⟨s.toArray⟩ : Str) c
      have f2 : decide (c ∈ (⟨s.toArray⟩ : Str).cps.toList) = true := by simpa using h.1
      rw [f2] at f
      cases e : Builtin.Str.occurrences (⟨s.toArray⟩ : Str) ⟨#[c]⟩ 0 (⟨s.toArray⟩ : Str).length 1 with
      | nil => rw [e] at f; cases f
      | cons i rest =>
        refine ⟨_, _, i, rest, rfl, rfl, e, q _ z _ k.to (.int _) (h.2 i ?_)⟩
        obtain ⟨o1, o2⟩ := StrLaws.occ_spec (⟨s.toArray⟩ : Str) ⟨#[c]⟩ 0 _ 1 i (by rw [e]; exact List.mem_cons_self)
        unfold Builtin.Str.subAt at o2
        have o2 := eq_of_beq o2
        rw [sOf_len] at o1
        have o3 : ((s.drop i).take 1) = [c] := by
          have := congrArg Array.toList o2
          have l1 : (⟨#[c]⟩ : Str).length = 1 := rfl
          rw [l1] at this
          simpa using this
        have hi : i < s.length := by
          have e1 : (⟨[c].toArray⟩ : Str).length = 1 := rfl
          have e2 := sOf_len s
          have o1' : i + (⟨[c].toArray⟩ : Str).length ≤ (⟨s.toArray⟩ : Str).length := o1
          omega
        rw [List.drop_eq_getElem_cons hi, List.take_succ_cons, List.take_zero] at o3
        rw [List.getElem?_eq_getElem hi]
        exact congrArg some (List.cons.inj o3).1
    · exact h.elim
theorem mt_sindex_ {X : Cx} : MtR X "str.index" (m_sindex (K := X.K)).r := mt_sindex
end
end T

/-! Built-in calls and methods over data, as equations. -/
namespace T
open PySem L2
def NeedW (C P : Prop) : Prop := C ∧ P
theorem x_need {C P : Prop} (h : C) : NeedW C P = P := propext ⟨fun z => z.2, fun z => ⟨h, z⟩⟩
theorem need3 {A B C P : Prop} : ((A ∧ B ∧ C) ∧ P) = NeedW A (NeedW B (NeedW C P)) := propext ⟨fun ⟨⟨a, b, c⟩, p⟩ => ⟨a, b, c, p⟩, fun ⟨a, b, c, p⟩ => ⟨⟨a, b, c⟩, p⟩⟩
theorem need2 {A B P : Prop} : ((A ∧ B) ∧ P) = NeedW A (NeedW B P) := propext ⟨fun ⟨⟨a, b⟩, p⟩ => ⟨a, b, p⟩, fun ⟨a, b, p⟩ => ⟨⟨a, b⟩, p⟩⟩
def tyC : Option Cell → String
  | some (.lst _) => "list"
  | some (.dk _) => "dict"
  | some (.dt _) => "dict"
  | _ => ""
section
variable {K : Fg} {ρ : En} {ω : Om} {Φ : D → Om → Prop} {Ψ : Exn → Om → Prop} {A : BE K} {As : BA K} {d e : D} {i j : Int} {s t : List Nat} {x : Bool} {ds es : List D} {a : Addr} {ns : List Int} {ts : List (List Nat)} {bs : List Bool} {c : Nat}
/-! what is read as a list -/
theorem x_seqL : seqOf ω (.lst ds) = some ds := rfl
theorem x_seqT : seqOf ω (.tup ds) = some ds := rfl
theorem x_seqC : seqOf ω (.scr ns) = some (ns.map .int) := rfl
theorem x_seqR {F : List D → Prop} : optW (seqOf ω (.ref a)) F = cL (ω a) F := by
  show optW (match ω a with | some (.lst ds) => some ds | _ => none) F = _
  cases ω a with
  | none => rfl
  | some c => cases c <;> rfl
theorem x_lstL : lstOf ω (.lst ds) = some ds := rfl
theorem x_lstR {F : List D → Prop} : optW (lstOf ω (.ref a)) F = cL (ω a) F := by
  show optW (match ω a with | some (.lst ds) => some ds | _ => none) F = _
  cases ω a with
  | none => rfl
  | some c => cases c <;> rfl
theorem x_ints : intsOf (ns.map .int) = some ns := intsOf_map ns
theorem x_ints0 : intsOf [] = some [] := rfl
theorem x_ints1 : intsOf (.int i :: ds) = (intsOf ds).map (i :: ·) := rfl
theorem x_strs : strsOf (ts.map .str) = some ts := strsOf_map ts
theorem x_strs0 : strsOf [] = some [] := rfl
theorem x_strs1 : strsOf (.str s :: ds) = (strsOf ds).map (s :: ·) := rfl
theorem x_bls : blsOf (bs.map .bl) = some bs := blsOf_map bs
theorem x_bls0 : blsOf [] = some [] := rfl
theorem x_bls1 : blsOf (.bl x :: ds) = (blsOf ds).map (x :: ·) := rfl
theorem x_omap {α β : Type} {y : α} {f : α → β} : (some y).map f = some (f y) := rfl
/-! list, tuple, str, int, ord, sum, max, min, any -/
theorem x_cl : (cList false : CB K).w [d] ω Φ = optW (seqOf ω d) fun es => Φ (.lst es) ω := rfl
theorem x_clO : (cList true : CB K).w [d] ω Φ = optW (seqOf ω d) fun es => ∀ a, ω a = none → Φ (.ref a) (ω.set a (.lst es)) := rfl
theorem x_ctu : (cTuple : CB K).w [d] ω Φ = optW (seqOf ω d) fun es => Φ (.tup es) ω := rfl
theorem log_ok {i : Int} (h : -1000000000000000000000000000000000000000000000000000000000000000000000000000000000000000000000000000 ≤ i ∧ i ≤ 1000000000000000000000000000000000000000000000000000000000000000000000000000000000000000000000000000) : i.natAbs.log2 < 1920 := by
  by_cases c : i.natAbs = 0
  · rw [c]; decide
  · rw [Nat.log2_lt c]
    have : i.natAbs ≤ 1000000000000000000000000000000000000000000000000000000000000000000000000000000000000000000000000000 := by omega
    exact Nat.lt_of_le_of_lt this (by decide)
theorem x_strI (h : -1000000000000000000000000000000000000000000000000000000000000000000000000000000000000000000000000000 ≤ i ∧ i ≤ 1000000000000000000000000000000000000000000000000000000000000000000000000000000000000000000000000000) : (cStr : CB K).w [.int i] ω Φ = Φ (.str (strI i)) ω := propext ⟨fun z => z.2, fun z => ⟨log_ok h, z⟩⟩
theorem x_strS : (cStr : CB K).w [.str s] ω Φ = Φ (.str s) ω := rfl
theorem x_intI : (cInt : CB K).w [.int i] ω Φ = Φ (.int i) ω := rfl
theorem x_intB : (cInt : CB K).w [.bl x] ω Φ = Φ (.int (if x = true then 1 else 0)) ω := rfl
theorem x_intS : (cInt : CB K).w [.str s] ω Φ = NeedW (s ≠ []) (NeedW (s.length ≤ 640) (NeedW (s.all isFig = true) (Φ (.int (figV s : Nat)) ω))) := need3
theorem x_ord : (cOrd : CB K).w [.str [c]] ω Φ = Φ (.int (c : Nat)) ω := rfl
theorem x_sum : (cSum : CB K).w [d] ω Φ = optW (lstOf ω d) fun es => optW (intsOf es) fun ns => Φ (.int ns.sum) ω := rfl
theorem x_maxL : (cMaxL : CB K).w [d] ω Φ = optW (lstOf ω d) fun es => optW (intsOf es) fun ns => NeedW (ns ≠ []) (∀ m, m ∈ ns → (∀ y, y ∈ ns → y ≤ m) → Φ (.int m) ω) := rfl
theorem x_minL : (cMinL : CB K).w [d] ω Φ = optW (lstOf ω d) fun es => optW (intsOf es) fun ns => NeedW (ns ≠ []) (∀ m, m ∈ ns → (∀ y, y ∈ ns → m ≤ y) → Φ (.int m) ω) := rfl
theorem x_any : (cAny : CB K).w [d] ω Φ = optW (lstOf ω d) fun es => optW (blsOf es) fun ns => Φ (.bl (ns.any id)) ω := rfl
theorem x_all2 : (cAll : CB K).w [d] ω Φ = optW (lstOf ω d) fun es => optW (blsOf es) fun ns => Φ (.bl (ns.all id)) ω := by
  refine propext ⟨fun ⟨_, es, bs, h0, h1, h2, z⟩ => ?_, fun z => ?_⟩
  · cases h0
    rw [h1]
    show optW (blsOf es) _
    rw [h2]; exact z
  · obtain ⟨es, h1, z⟩ := optW_iff.mp z
    obtain ⟨bs, h2, z⟩ := optW_iff.mp z
    exact ⟨d, es, bs, rfl, h1, h2, z⟩
/-! methods -/
theorem x_bM {Ty : String} {hT : Ty ≠ ""} {m : BM K} : (bM Ty hT m A As).w ρ ω Φ Ψ = A.w ρ ω (fun x ω1 => NeedW (tyM ω1 x = Ty) (As.w ρ ω1 (fun xs ω2 => m.w x xs ω2 Φ) Ψ)) Ψ := rfl
theorem x_bM0 {Ty : String} {hT : Ty ≠ ""} {m : BM K} : (bM0 Ty hT m A).w ρ ω Φ Ψ = A.w ρ ω (fun x ω1 => NeedW (tyM ω1 x = Ty) (m.w x [] ω1 Φ)) Ψ := rfl
theorem x_tyS : tyM ω (.str s) = "str" := rfl
theorem x_tyL : tyM ω (.lst ds) = "list" := rfl
theorem x_tyR : tyM ω (.ref a) = tyC (ω a) := by
  show (match ω a with | some (.lst _) => "list" | some (.dk _) => "dict" | some (.dt _) => "dict" | _ => "") = _
  cases ω a with
  | none => rfl
  | some c => cases c <;> rfl
theorem x_tyC0 : tyC (some (.lst ds)) = "list" := rfl
theorem x_tyC1 {kvs : List (Key × D)} : tyC (some (.dk kvs)) = "dict" := rfl
theorem x_tyC2 {kvs : List (List Key × D)} : tyC (some (.dt kvs)) = "dict" := rfl
theorem x_needE {α : Type} {u : α} {P : Prop} : NeedW (u = u) P = P := x_need rfl
theorem x_app : (m_append : BM K).w (.ref a) [d] ω Φ = cL (ω a) fun ds => NeedW (ds.length < 16777216) (Φ .non (ω.set a (.lst (ds ++ [d])))) := rfl
theorem x_ext : (m_extend : BM K).w (.ref a) [d] ω Φ = cL (ω a) fun ds => optW (lstOf ω d) fun es => NeedW (ds.length + es.length ≤ 16777216) (Φ .non (ω.set a (.lst (ds ++ es)))) := rfl
theorem x_pop : (m_pop : BM K).w (.ref a) [] ω Φ = cL (ω a) fun ds => optW (ds[ds.length - 1]?) fun d => Φ d (ω.set a (.lst ds.dropLast)) := rfl
theorem x_popAt : (m_popAt : BM K).w (.ref a) [.int i] ω Φ = cL (ω a) fun ds => NeedW (-9223372036854775808 ≤ i ∧ i < 9223372036854775808) (optW (seqIndex? i ds.length) fun k => optW (ds[k]?) fun d => Φ d (ω.set a (.lst (ds.eraseIdx k)))) := rfl
theorem x_rev : (m_reverse : BM K).w (.ref a) [] ω Φ = cL (ω a) fun ds => Φ .non (ω.set a (.lst ds.reverse)) := rfl
theorem x_clr : (m_clear : BM K).w (.ref a) [] ω Φ = cL (ω a) fun ds => Φ .non (ω.set a (.lst [])) := rfl
theorem x_ins : (m_insert : BM K).w (.ref a) [.int i, d] ω Φ = cL (ω a) fun ds => NeedW (ds.length < 16777216 ∧ 0 ≤ i ∧ i < 9223372036854775808) (Φ .non (ω.set a (.lst (ds.take i.toNat ++ [d] ++ ds.drop i.toNat)))) := rfl
theorem x_split : (m_split : BM K).w (.str s) [.str t] ω Φ = NeedW (t ≠ []) (NeedW (t.all (· < 256) = true) (NeedW (s.length + 2 ≤ 16777216) (Φ (.lst ((TL.spl t 0 [] s).map .str)) ω))) := need3
theorem x_part : (m_partition : BM K).w (.str s) [.str t] ω Φ = NeedW (t ≠ []) (NeedW (s.length ≤ 16777216) (Φ (.tup ((parL s t).map .str)) ω)) := need2
theorem x_join : (m_join : BM K).w (.str s) [d] ω Φ = optW (seqOf ω d) fun es => optW (strsOf es) fun ts => NeedW ((ts.map (·.length)).sum + ts.length * s.length ≤ 16777216) (Φ (.str (TL.joinL s ts)) ω) := rfl
theorem x_zf : (m_zfill : BM K).w (.str s) [.int i] ω Φ = NeedW (0 ≤ i ∧ i ≤ 1000) (NeedW (s.head? ≠ some 43 ∧ s.head? ≠ some 45) (Φ (.str (zfL s i.toNat)) ω)) := need2
theorem x_sidx : (m_sindex : BM K).w (.str s) [.str [c]] ω Φ = NeedW (c ∈ s) (∀ i : Nat, s[i]? = some c → Φ (.int i) ω) := rfl
theorem x_eqE0 : (oEqE : O2 K).w (.tup ds) (.tup []) ω Φ = Φ (.bl ds.isEmpty) ω := rfl
theorem x_eqE1 : (oEqE : O2 K).w d (.lst []) ω Φ = optW (lstOf ω d) fun ds => Φ (.bl ds.isEmpty) ω := propext optW_iff.symm
end
/-! forms that go on at once: what stands behind is not looked at ahead of its time -/
def setW (ρ : En) (i : Nat) (v : Option D) (G : En → Prop) : Prop := G (ρ.set i v)
section
variable {K : Fg} {ρ : En} {ω : Om} {Φ : D → Om → Prop} {Ψ : Exn → Om → Prop} {A : BE K} {d e : D} {i : Int} {s : List Nat} {x : Bool} {ds es : List D} {a b : Addr} {ns : List Int} {ts : List (List Nat)} {bs : List Bool} {G : En → Prop} {u v : Option D} {r : En} {n : Nat} {F : D → Prop} {FL : List D → Prop}
theorem x_set0 : setW (u :: r) 0 v G = G (v :: r) := rfl
theorem x_set1 : setW (u :: r) (n + 1) v G = setW r n v fun r' => G (u :: r') := rfl
theorem x_gNs {j : Nat} {F : En → Om → Prop} : (bgN j : BG K).w d ρ ω F = setW ρ j (some d) fun ρ' => F ρ' ω := rfl
theorem x_augs {nx bk ct : En → Om → Prop} {rt : D → Om → Prop} {xc : Exn → En → Om → Prop} {j : Nat} {o : O2 K} : (bsAug j A o).w ρ ω ⟨nx, rt, bk, ct, xc⟩ = varW ρ[j]? fun d => A.w ρ ω (fun y ω1 => o.w d y ω1 fun v ω2 => setW ρ j (some v) fun ρ' => nx ρ' ω2) fun x ω1 => xc x ρ ω1 := rfl
theorem x_vr0 : varW (some d :: r)[0]? F = F d := rfl
theorem x_vr1 : varW (u :: r)[n + 1]? F = varW r[n]? F := rfl
section
variable {α : Type} {c0 c1 c2 c3 c4 c5 c6 c7 c8 c9 c10 : α} {q : List α} {F : α → Prop}
theorem x_oa0 : optW (atI (c0 :: q) 0) F = F c0 := by rw [x_at0]; rfl
theorem x_oa1 : optW (atI (c0 :: c1 :: q) 1) F = F c1 := by rw [x_at1]; rfl
theorem x_oa2 : optW (atI (c0 :: c1 :: c2 :: q) 2) F = F c2 := by rw [x_at2]; rfl
theorem x_oa3 : optW (atI (c0 :: c1 :: c2 :: c3 :: q) 3) F = F c3 := by rw [x_at3]; rfl
theorem x_oa4 : optW (atI (c0 :: c1 :: c2 :: c3 :: c4 :: q) 4) F = F c4 := by rw [x_at4]; rfl
theorem x_oa5 : optW (atI (c0 :: c1 :: c2 :: c3 :: c4 :: c5 :: q) 5) F = F c5 := by rw [x_at5]; rfl
theorem x_oa6 : optW (atI (c0 :: c1 :: c2 :: c3 :: c4 :: c5 :: c6 :: q) 6) F = F c6 := by rw [x_at6]; rfl
theorem x_oa7 : optW (atI (c0 :: c1 :: c2 :: c3 :: c4 :: c5 :: c6 :: c7 :: q) 7) F = F c7 := by rw [x_at7]; rfl
theorem x_oa8 : optW (atI (c0 :: c1 :: c2 :: c3 :: c4 :: c5 :: c6 :: c7 :: c8 :: q) 8) F = F c8 := by rw [x_at8]; rfl
theorem x_oa9 : optW (atI (c0 :: c1 :: c2 :: c3 :: c4 :: c5 :: c6 :: c7 :: c8 :: c9 :: q) 9) F = F c9 := by rw [x_at9]; rfl
theorem x_oa10 : optW (atI (c0 :: c1 :: c2 :: c3 :: c4 :: c5 :: c6 :: c7 :: c8 :: c9 :: c10 :: q) 10) F = F c10 := by rw [x_at10]; rfl
end
theorem x_cLS : cL (ω.set a (.lst ds) a) FL = FL ds := by rw [Om.set_same]; rfl
theorem x_cLN {c : Cell} (h : b ≠ a) : cL (ω.set a c b) FL = cL (ω b) FL := by rw [Om.set_ne h]
theorem x_ssL : optW (seqOf ω (.lst ds)) FL = FL ds := rfl
theorem x_ssT : optW (seqOf ω (.tup ds)) FL = FL ds := rfl
theorem x_ssC : optW (seqOf ω (.scr ns)) FL = FL (ns.map .int) := rfl
theorem x_slsL : optW (lstOf ω (.lst ds)) FL = FL ds := rfl
theorem x_oi {F : List Int → Prop} : optW (intsOf (ns.map .int)) F = F ns := by rw [intsOf_map]; rfl
theorem x_oi0 {F : List Int → Prop} : optW (intsOf []) F = F [] := rfl
theorem x_oi1 {F : List Int → Prop} : optW (intsOf (.int i :: ds)) F = optW (intsOf ds) fun r => F (i :: r) := by
  show optW ((intsOf ds).map (i :: ·)) F = _
  cases intsOf ds <;> rfl
theorem x_os {F : List (List Nat) → Prop} : optW (strsOf (ts.map .str)) F = F ts := by rw [strsOf_map]; rfl
theorem x_os0 {F : List (List Nat) → Prop} : optW (strsOf []) F = F [] := rfl
theorem x_os1 {F : List (List Nat) → Prop} : optW (strsOf (.str s :: ds)) F = optW (strsOf ds) fun r => F (s :: r) := by
  show optW ((strsOf ds).map (s :: ·)) F = _
  cases strsOf ds <;> rfl
theorem x_ob {F : List Bool → Prop} : optW (blsOf (bs.map .bl)) F = F bs := by rw [blsOf_map]; rfl
theorem x_ob0 {F : List Bool → Prop} : optW (blsOf []) F = F [] := rfl
theorem x_ob1 {F : List Bool → Prop} : optW (blsOf (.bl x :: ds)) F = optW (blsOf ds) fun r => F (x :: r) := by
  show optW ((blsOf ds).map (x :: ·)) F = _
  cases blsOf ds <;> rfl
theorem x_ntS {P : Prop} : NeedW (tyM ω (.str s) = "str") P = P := x_need rfl
theorem x_ntL {P : Prop} : NeedW (tyM ω (.lst ds) = "list") P = P := x_need rfl
theorem x_ntR {P : Prop} : NeedW (tyM (ω.set a (.lst ds)) (.ref a) = "list") P = P := x_need (by rw [x_tyR, Om.set_same]; rfl)
theorem x_ntN {c : Cell} {T : String} {P : Prop} (h : b ≠ a) : NeedW (tyM (ω.set a c) (.ref b) = T) P = NeedW (tyM ω (.ref b) = T) P := by rw [x_tyR, x_tyR, Om.set_ne h]
end
/-! cuts of what stands there -/
section
variable {α : Type} {c0 c1 c2 : α} {q : List α}
theorem sIx_le {n : Nat} {d : Nat} {k : Int} (h : 0 ≤ k) : HT.sIx n d (some k) = min k.toNat n := by
  obtain ⟨m, rfl⟩ := Int.eq_ofNat_of_zero_le h
  rw [HT.sIx_nat]; rfl
theorem x_cutT1 : cut (c0 :: q) none (some 1) = [c0] := by rw [cut_to _ (by omega)]; rfl
theorem x_cutT2 : cut (c0 :: c1 :: q) none (some 2) = [c0, c1] := by rw [cut_to _ (by omega)]; rfl
theorem x_cutT0 : cut q none (some 0) = [] := by rw [cut_to _ (by omega)]; simp
theorem x_cutF1 : cut (c0 :: q) (some 1) none = q := by rw [cut_from _ (by omega)]; rfl
theorem x_cutF2 : cut (c0 :: c1 :: q) (some 2) none = q := by rw [cut_from _ (by omega)]; rfl
theorem x_cutF3 : cut (c0 :: c1 :: c2 :: q) (some 3) none = q := by rw [cut_from _ (by omega)]; rfl
end
/-! targets of tuples that stand there -/
section
variable {K : Fg} {ρ : En} {ω : Om} {gs : BGs K} {F : En → Om → Prop} {a b c d e : D}
theorem x_gT2 : (bgT 2 gs).w (.tup [a, b]) ρ ω F = gs.w [a, b] ρ ω F := cond rfl
theorem x_gT3 : (bgT 3 gs).w (.tup [a, b, c]) ρ ω F = gs.w [a, b, c] ρ ω F := cond rfl
theorem x_gT4 : (bgT 4 gs).w (.tup [a, b, c, d]) ρ ω F = gs.w [a, b, c, d] ρ ω F := cond rfl
theorem x_gT5 : (bgT 5 gs).w (.tup [a, b, c, d, e]) ρ ω F = gs.w [a, b, c, d, e] ρ ω F := cond rfl
end
/-! calls -/
def apD (xs ds : List D) (G : List D → Prop) : Prop := G (xs ++ ds)
section
variable {K : Fg} {ρ : En} {ω : Om} {Φ : D → Om → Prop} {Ψ : Exn → Om → Prop} {As : BA K} {d : D} {xs ds : List D} {G : List D → Prop}
theorem x_apd0 : apD [] ds G = G ds := rfl
theorem x_apd1 : apD (d :: xs) ds G = apD xs ds fun r => G (d :: r) := rfl
theorem x_call0 {W : WP} {hd} : (bCall W [] [] hd As).w ρ ω Φ Ψ = As.w ρ ω (fun xs ω1 => W xs ω1 Φ) Ψ := by
  show As.w ρ ω (fun xs ω1 => W (xs ++ []) ω1 Φ) Ψ = _
  congr
  funext xs ω1
  rw [List.append_nil]
theorem x_callD {W : WP} {vs : List V} {v : V} {hd} : (bCall W (v :: vs) (d :: ds) hd As).w ρ ω Φ Ψ = As.w ρ ω (fun xs ω1 => apD xs (d :: ds) fun r => W r ω1 Φ) Ψ := rfl
end
end T

/-! A tuple times 0 or 1. -/
namespace L2
open PySem PySem.Spec PyProof.Rows
theorem tuple_mul1 (l : Addr) (items : Array Value) (n : Nat) (dd : Option Addr) (sl : Array (Option Value)) (u : Tok) :
    Meets (Builtin.«tuple.__mul__» ⟨[.ref l, .int 1 u], []⟩) (fun _ R s => s.heap.get? l = some { cls := .type "tuple", dict := dd, data := .seq items n, slots := sl } ∧
      R (.ok (.ret (Value.ref l))) s) :=
  .of_wp fun prog w A R s h => by
    obtain ⟨hp, g, d, tk, os⟩ := s
    obtain ⟨hl, h⟩ := h
    have f1 := AutoSeq1.idx_int
    have c1 : (items.isEmpty || (1 : Int) == 1) = true := by simp
    wp_walk using wpAny_loadPart' hl, wpAny_load hl
    repeat (first
      | (refine wpAny_ite_false (decide_eq_false (by decide)) ?_; wp_walk using wpAny_loadPart' hl, wpAny_load hl)
      | (refine wpAny_ite_true (decide_eq_true (by rw [c1])) ?_; wp_walk using wpAny_loadPart' hl, wpAny_load hl))
    exact ⟨_, rfl, h⟩
theorem tuple_mul0 (l : Addr) (items : Array Value) (n : Nat) (dd : Option Addr) (sl : Array (Option Value)) (u : Tok) (hne : items.isEmpty = false) :
    Meets (Builtin.«tuple.__mul__» ⟨[.ref l, .int 0 u], []⟩) (fun _ R s => s.heap.get? l = some { cls := .type "tuple", dict := dd, data := .seq items n, slots := sl } ∧
      R (.ok (.ret (Value.ref s.heap.objs.size))) { s with heap := s.heap.push { cls := Value.type "tuple", data := Data.seq #[] }, toks := s.toks }) :=
  .of_wp fun prog w A R s h => by
    obtain ⟨hp, g, d, tk, os⟩ := s
    obtain ⟨hl, h⟩ := h
    have f1 := AutoSeq1.idx_int
    have c1 : (items.isEmpty || (0 : Int) == 1) = false := by rw [hne]; rfl
    have c2 : (decide ((0 : Int) ≤ 0) || items.isEmpty) = true := by simp
    wp_walk using wpAny_loadPart' hl, wpAny_load hl
    repeat (first
      | (refine wpAny_ite_false (decide_eq_false (by decide)) ?_; wp_walk using wpAny_loadPart' hl, wpAny_load hl)
      | (refine wpAny_ite_false (decide_eq_false (by rw [c1]; exact Bool.false_ne_true)) ?_; wp_walk using wpAny_loadPart' hl, wpAny_load hl)
      | (refine wpAny_ite_true (decide_eq_true (by rw [c2])) ?_; wp_walk using wpAny_loadPart' hl, wpAny_load hl))
    exact ⟨_, rfl, h⟩
def rRep01 (K : PySem.W.Frag) : R2 := fun x y H Q => ∃ l k xs, x = .ref l ∧ y = .int k ∧ SqT K H l xs ∧ xs ≠ [] ∧ ((k = 1 ∧ Q (.ref l) H) ∨ (k = 0 ∧ ∀ p, H p = none → Q (.ref p) (upd H p (.tup []))))
theorem op_rep01 {X : Cx} : OpR X (binaryOp .Mult) (rRep01 X.K) := by
  intro pins s σ H x y v u Q I rx ry h
  obtain ⟨l, k, xs, rfl, rfl, hT, hne, h⟩ := h
  cases rx
  obtain ⟨t, rfl⟩ := ry
  obtain ⟨its, r, ⟨⟨cls, dd, data, sl⟩, ho, hc, n, hd⟩, hs⟩ := I.tuple hT
  simp only at hc hd
  subst hc hd
  have hi : its.toArray.isEmpty = false := by
    cases its with
    | nil => cases r; exact absurd rfl hne
    | cons a b => rfl
  rcases h with ⟨rfl, q⟩ | ⟨rfl, q⟩
  · refine wpAny_binaryOp_repeat_ref (T := "tuple") (U := "int") (by decide) ⟨_, ho, rfl⟩ (fun s' => typeIs_int s' 1 t) noFill_tuple_mul F.fills_int_mul F.slot_int_rmul repeat_tuple F.slot_int_index.lookup
      (call_meets F.slot_int_rmul (typeIs_int s 1 t) F.entry_int_rmul (F.args_int_rmul_2 _ _) (int_rmul_tuple 1 t l its.toArray n dd sl)
        ⟨ho, rfl, ⟨_, ho, rfl⟩, call_meets F.slot_tuple_mul ⟨_, ho, rfl⟩ F.entry_tuple_mul (F.args_tuple_mul_2 _ _) (tuple_mul1 l its.toArray n dd sl t) ⟨ho, ?_⟩⟩)
    exact ⟨.ref l, H, I, rfl, q⟩
  · refine wpAny_binaryOp_repeat_ref (T := "tuple") (U := "int") (by decide) ⟨_, ho, rfl⟩ (fun s' => typeIs_int s' 0 t) noFill_tuple_mul F.fills_int_mul F.slot_int_rmul repeat_tuple F.slot_int_index.lookup
      (call_meets F.slot_int_rmul (typeIs_int s 0 t) F.entry_int_rmul (F.args_int_rmul_2 _ _) (int_rmul_tuple 0 t l its.toArray n dd sl)
        ⟨ho, rfl, ⟨_, ho, rfl⟩, call_meets F.slot_tuple_mul ⟨_, ho, rfl⟩ F.entry_tuple_mul (F.args_tuple_mul_2 _ _) (tuple_mul0 l its.toArray n dd sl t hi) ⟨ho, ?_⟩⟩)
    refine ⟨.ref s.heap.objs.size, _, I.laid (t' := s.toks) (o := .tup []) (fun b ob q => Heap.get?_push_of_some _ q) (Nat.le_refl _) ?_, rfl, q _ (I.hok.fresh (Nat.le_refl _))⟩
    exact ⟨Nat.zero_le _, [], .nil, IsTup.new _ _⟩
end L2
namespace T
open PySem L2
section
variable {K : Fg}
/-- a tuple * a number -/
def oMulTup : O2 K where
  r := fun x y H Q => rRep01 K x y H Q ∨ rRepT K x y H Q
  w := fun x y ω Φ => match x, y with
    | .tup ds, .int k => (ds ≠ [] ∧ ds.length ≤ 1000 ∧ 0 ≤ k ∧ k ≤ 1000) ∧ Φ (.tup (List.replicate k.toNat ds).flatten) ω
    | _, _ => False
  ok := fun z x y d e Q Φ h k r1 r2 q => by
    split at h
    · rename_i ds m
      obtain ⟨⟨h1, h2, h3, h4⟩, h⟩ := h
      obtain ⟨a, xs, rfl, ha, rx⟩ := rep_tup r1
      cases r2
      have hx : xs ≠ [] := fun e => by subst e; cases rx; exact h1 rfl
      by_cases c1 : m = 1
      · subst c1
        refine .inl ⟨a, 1, xs, rfl, rfl, k.fz.sqt ha, hx, .inl ⟨rfl, ?_⟩⟩
        refine q _ z _ k.to (.tup ha rx) ?_
        simpa using h
      · by_cases c0 : m = 0
        · subst c0
          refine .inl ⟨a, 0, xs, rfl, rfl, k.fz.sqt ha, hx, .inr ⟨rfl, fun p hp => ?_⟩⟩
          have t := k.add (o := .tup []) hp
          exact q _ _ _ t (.tup (SqT.of upd_same) .nil) h
        · have rr : ∀ n : Nat, RepL K z.d (List.replicate n xs).flatten (List.replicate n ds).flatten := fun n => by
            induction n with
            | zero => exact .nil
            | succ n ih =>
              rw [List.replicate_succ, List.flatten_cons, List.replicate_succ, List.flatten_cons]
              exact rx.append ih
          refine .inr ⟨a, m, xs, rfl, rfl, k.fz.sqt ha, hx, by omega, h4, by rw [rx.length]; exact h2, fun p hp => ?_⟩
          have t := k.add (o := .tup (List.replicate m.toNat xs).flatten) hp
          exact q _ _ _ t (.tup (SqT.of upd_same) ((rr _).mono t.ex)) h
    · exact h.elim
theorem op_oMulTup {X : Cx} : OpR X (binaryOp .Mult) (oMulTup (K := X.K)).r := op_rep01.or op_repT
theorem x_mulT {ω : Om} {Φ : D → Om → Prop} {ds : List D} {k : Int} : (oMulTup : O2 K).w (.tup ds) (.int k) ω Φ = NeedW (ds ≠ [] ∧ ds.length ≤ 1000 ∧ 0 ≤ k ∧ k ≤ 1000) (Φ (.tup (List.replicate k.toNat ds).flatten) ω) := rfl
end
end T

/-! reversed, zip, enumerate; f-strings; what is never done. -/
namespace L2
open PySem PySem.Spec PyProof.Rows RT
theorem norev_str : typeLookup (.type "str") "__reversed__" = pure none := by
  rw [typeLookup_type, builtinLookup_eq_fast]; kernel_rfl
theorem get_str : typeLookup (.type "str") "__getitem__" = pure (some (.builtin "str.__getitem__")) := by
  rw [typeLookup_type, builtinLookup_eq_fast]; kernel_rfl
theorem subStrDict : isSubtype (.type "str") (.type "dict") = pure false := by rw [isSubtype_type]; kernel_rfl
/-- reversed(a text), the next place i -/
def IsRs (h : Heap) (a : Addr) (x : Str) (t : Tok) (i : Int) : Prop := ∃ o, h.get? a = some o ∧ o.cls = .type "reversed" ∧ o.data = .fields #[.str x t, rawInt i]
def rsObj (x : Str) (t : Tok) (i : Int) : Obj := { cls := .type "reversed", data := .fields #[.str x t, rawInt i] }
section
variable {prog : Program} {w : World} {A : Around} {E : Value → Shared → Prop} {s : Shared} {x : Str} {t : Tok}
theorem IsRs.ty {a : Addr} {i : Int} (r : IsRs s.heap a x t i) : s.TypeIs (.ref a) "reversed" := by
  obtain ⟨o, ho, hc, _⟩ := r
  exact ⟨o, ho, hc⟩
theorem code_reversed_str {Q₁ : Value → Shared → Prop} (hz : x.length ≤ sizeLine)
    (h : Q₁ (.ref s.heap.objs.size) { s with heap := s.heap.push (rsObj x t ((x.length : Int) - 1)), toks := s.toks + 1 + 1 }) :
    codeAny (model prog w) A (.call (.builtin "reversed.__new__") ⟨[.type "reversed", .str x t], []⟩) (wants Q₁ E) s := by
  have hT : s.TypeIs (.str x t) "str" := typeIs_str s x t
  refine codeAny_of_tree ?_
  show wpAny _ A.in1 (checkBuiltinCall "reversed.__new__" ⟨[.type "reversed", .str x t], []⟩ >>= fun _ =>
    again (.builtin "reversed.__new__" ⟨[.type "reversed", .str x t], []⟩)) _ _ s
  refine wpAny_bind (wpAny_of_eq (F.newCall_reversed_1 _)
    (wpAny_pure ⟨plainId_quiet F.plain_reversed_new _, codeAny_builtin F.entry_reversed_new ?_⟩))
  rw [Around.under_plainId F.plain_reversed_new _]; unfold Builtin.«reversed.__new__»
  refine wpAny_bind (wpAny_of_eq (newClass_reversed _) ?_); try dsimp only
  refine wpAny_bind (wpAny_of_eq (a := ()) (by first | rfl | kernel_rfl) ?_); try dsimp only
  refine wpAny_bind (wpAny_of_eq (a := ()) (by first | rfl | kernel_rfl) ?_); try dsimp only
  refine wpAny_bind (wpAny_specialOf hT norev_str ?_); try dsimp only
  refine wpAny_bind ?_
  wp_delta
  refine wpAny_bind (wpAny_isInstance (T := "str") (U := "dict") (b := false) hT subStrDict ?_); try dsimp only
  try rw [if_neg Bool.false_ne_true]
  try dsimp only
  refine wpAny_bind (wpAny_specialOf hT get_str ?_); try dsimp only
  try rw [if_pos (by decide +kernel)]
  refine wpAny_pure ?_; try dsimp only
  try rw [if_neg (by decide)]
  try dsimp only
  refine wpAny_bind (PyProof.Rows.len_str (by have := sizeLine_eq; omega) ?_)
  refine wpAny_bind (wpAny_of_eq (a := some ((x.length : Nat) : Int)) rfl ?_); try dsimp only
  refine wpAny_bind ?_
  show wpAny _ _ (newObj (.type "reversed") (.fields #[.str x t, rawInt ((x.length : Int) - 1)])) _ _ _
  exact wpAny_newObj_type (wpAny_pure h)
theorem call_reversed_str {Q : Value → Shared → Prop} (hz : x.length ≤ sizeLine)
    (h : Q (.ref s.heap.objs.size) { s with heap := s.heap.push (rsObj x t ((x.length : Int) - 1)), toks := s.toks + 1 + 1 }) : wpAny (model prog w) A (call (.type "reversed") [.str x t]) Q E s := by
  refine callType_codes (Q₁ := fun obj s₁ => s₁.TypeIs obj "reversed" ∧ Q obj s₁) called_rt (F.typeCall_reversed_1 _)
    F.entry_object_init (code_reversed_str (A := A.in1) hz ⟨⟨_, Heap.get?_push_size _ rfl, rfl⟩, h⟩) fun obj s₁ h₁ => ?_
  refine ⟨h₁.1, F.args_object_init_2 obj _, ?_⟩
  exact object_init_meets called_rt.init.lookup called_rt.made (by decide) prog w A.in1 _ s₁ ⟨h₁.1, rfl, h₁.2⟩
theorem next_rs_item {it : Addr} {i c : Nat} {Q : Option Value → Shared → Prop} (hit : IsRs s.heap it x t (i : Int)) (hx : x.cps[i]? = some c) (hz : x.length ≤ sizeLine)
    (hQ : ∀ h', IsRs h' it x t ((i : Int) - 1) → Heap.SameBut it s.heap h' → Q (some (.str ⟨#[c]⟩ (s.toks + 1))) { s with heap := h', toks := s.toks + 1 + 1 }) : wpAny (model prog w) A (pyNext (.ref it)) Q E s := by
  obtain ⟨o, ho, hc, hd⟩ := id hit
  have hi : i < x.length := (Array.getElem?_eq_some_iff.mp hx).1
  have hT : s.TypeIs (.str x t) "str" := typeIs_str s x t
  rw [sizeLine_eq] at hz
  unfold pyNext
  refine wpAny_bind (wpAny_attempt (wpAny_callSpecial?_slot (name := Str.ofString "__next__") hit.ty slot_rt_next
    (wpAny_call_entry slot_rt_next hit.ty entry_rt_next ?_ (args_rt_next _))))
  unfold Builtin.«reversed.__next__»
  refine wpAny_bind (wpAny_of_eq (a := (Value.ref it, [])) rfl ?_); try dsimp only
  refine wpAny_bind (wpAny_field ho hd (x := .str x t) rfl ?_); try dsimp only
  refine wpAny_bind (wpAny_field ho hd (x := rawInt (i : Int)) rfl ?_)
  show wpAny _ _ (if (i : Int) < 0 then _ else _) _ _ s
  rw [if_neg (by omega)]; try dsimp only
  refine wpAny_bind (wpAny_specialOf hT get_str ?_); try dsimp only
  try rw [if_neg (by decide)]
  try dsimp only
  refine wpAny_bind (wpAny_mkInt ?_)
  refine wpAny_bind (wpAny_attempt ?_)
  have fin : seqIndex? (i : Int) x.length = some i := seqIndex_of (by omega) (by omega)
  refine PyProof.Rows.getItem_str (s := { s with toks := s.toks + 1 }) (c := c) (by rw [decide_eq_false (by omega), decide_eq_false (by omega)]; rfl) (by rw [fin]; exact hx) ?_
  try dsimp only
  refine wpAny_bind (wpAny_field (s := { s with toks := s.toks + 1 + 1 }) ho hd (x := rawInt (i : Int)) rfl ?_); try dsimp only
  refine wpAny_bind (wpAny_setField (s := { s with toks := s.toks + 1 + 1 }) ho hd (by simp) ?_)
  have fin2 : IsRs (s.heap.update it (Obj.mapFields (·.setIfInBounds 1 (rawInt ((i : Int) - 1))))) it x t ((i : Int) - 1) :=
    ⟨_, Heap.get?_update_self _ ho (Obj.isFreed_of_fields (Obj.data_mapFields hd _)), (Obj.cls_mapFields ..).trans hc, by rw [Obj.data_mapFields hd]; simp⟩
  first
  | refine wpAny_pure ⟨_, rfl, wpAny_pure (hQ _ fin2 (Heap.SameBut.update ..))⟩
  | refine wpAny_bind (wpAny_pure (wpAny_pure ⟨_, rfl, wpAny_pure (hQ _ fin2 (Heap.SameBut.update ..))⟩))
theorem next_rs_end {it : Addr} {Q : Option Value → Shared → Prop} (hh : A.handled = none) (hit : IsRs s.heap it x t (-1))
    (hQ : ∀ h', Heap.ExtBut it s.heap h' → Q none { s with heap := h' }) : wpAny (model prog w) A (pyNext (.ref it)) Q E s := by
  obtain ⟨o, ho, hc, hd⟩ := id hit
  unfold pyNext
  refine wpAny_bind (wpAny_attempt (wpAny_callSpecial?_slot (name := Str.ofString "__next__") hit.ty slot_rt_next
    (wpAny_call_entry slot_rt_next hit.ty entry_rt_next ?_ (args_rt_next _))))
  unfold Builtin.«reversed.__next__»
  refine wpAny_bind (wpAny_of_eq (a := (Value.ref it, [])) rfl ?_); try dsimp only
  refine wpAny_bind (wpAny_field ho hd (x := .str x t) rfl ?_); try dsimp only
  refine wpAny_bind (wpAny_field ho hd (x := rawInt (-1)) rfl ?_)
  show wpAny _ _ (if (-1 : Int) < 0 then _ else _) _ _ s
  rw [if_pos (by decide)]; try dsimp only
  refine wpAny_bind (wpAny_rule ?_)
  refine wpAny_bind ?_
  wp_delta
  refine wpAny_bind (wpAny_setField ho hd (by simp) ?_)
  have ho2 := Heap.get?_update_self (Obj.mapFields (·.setIfInBounds 1 (rawInt (-1)))) ho (Obj.isFreed_of_fields (Obj.data_mapFields hd _))
  refine wpAny_setField (s := { s with heap := s.heap.update it (Obj.mapFields (·.setIfInBounds 1 (rawInt (-1)))) })
    ho2 (Obj.data_mapFields hd _) (by simp) ?_
  try dsimp only
  first
  | (show wpAny _ _ (newExc (.type "StopIteration") [] >>= _) _ _ _)
  | (refine wpAny_bind ?_; (show wpAny _ _ (newExc (.type "StopIteration") [] >>= _) _ _ _))
  | (refine wpAny_bind ?_; wp_delta; (show wpAny _ _ (newExc (.type "StopIteration") [] >>= _) _ _ _))
  refine wpAny_bind ?_
  simp only [newExc, newTuple]
  refine wpAny_bind (wpAny_newObj_type ?_ (by size_fits))
  refine wpAny_bind (m := firstArgMember _ _) (wpAny_of_eq (a := Value.none)
    (by first | rfl | (simp only [firstArgMember]; rfl)) ?_)
  refine wpAny_newObj_type ?_ (by size_fits)
  simp only [raiseNew]
  refine wpAny_bind (wpAny_handled ?_)
  first | rw [show A.in1.handled = none from hh] | rw [hh]
  refine wpAny_bind (wpAny_pure (wpAny_throw ?_))
  refine wpAny_bind (wpAny_isInstance (T := "StopIteration") (b := true)
    ⟨_, Heap.get?_push_size _ rfl, rfl⟩ isSubtype_stop ?_)
  refine wpAny_pure (hQ _ ?_)
  refine ((?_ : Heap.ExtBut it s.heap _).push _).push _
  intro b ob hb e
  exact (Heap.get?_update_other _ _ (Ne.symm hb)).trans ((Heap.get?_update_other _ _ (Ne.symm hb)).trans e)
theorem iter_rs {it : Addr} {i : Int} {Q : Value → Shared → Prop} (hit : IsRs s.heap it x t i) (h : Q (.ref it) s) : wpAny (model prog w) A (pyIter (.ref it)) Q E s := by
  refine wpAny_pyIter_slot hit.ty slot_rt_iter
    (wpAny_call_entry slot_rt_iter hit.ty entry_rt_iter ?_ (args_rt_iter _))
  show wpAny _ _ (ret (.ref it)) _ _ s
  exact wpAny_pure ⟨_, rfl, "reversed", _, hit.ty, slot_rt_next.lookup, h⟩
end
def Itrs (x : Str) : It := ⟨fun i _ => i < x.length ∧ x.length ≤ sizeLine, fun i H v H' => H' = H ∧ ∃ c, x.cps[x.length - 1 - i]? = some c ∧ v = .str ⟨#[c]⟩, fun i _ => x.length ≤ i⟩
theorem turn_rs {P : Program} {w : World} {K : PySem.W.Frag} {tg : Expr} (x : Str) (t : Tok) (it : Addr) : Turn P w K tg (Itrs x) [it] it (fun i h => i ≤ x.length ∧ IsRs h it x t ((x.length : Int) - 1 - (i : Nat))) where
  mem := by simp
  obj := fun i h st b hb => by
    obtain rfl : b = it := by simpa using hb
    obtain ⟨_, o, e, c, d⟩ := st
    exact ⟨o, e, fun v z => by rw [d] at z; cases z⟩
  keep := fun i h h' st k => by
    obtain ⟨a1, o, ho, r⟩ := st
    exact ⟨a1, o, k it (by simp) o ho, r⟩
  item := by
    intro X hP hw hK hc i pins s σ H E I hf st hg
    subst hP hw hK
    obtain ⟨hin, hz⟩ := hg
    obtain ⟨f0, f1, f2, f3, f4, f5⟩ := hf it (by simp)
    obtain ⟨_, hit⟩ := st
    have e1 : (x.length : Int) - 1 - ((i : Nat) : Int) = ((x.length - 1 - i : Nat) : Int) := by omega
    rw [e1] at hit
    have hj : x.length - 1 - i < x.cps.size := by
      have : x.length = x.cps.size := rfl
      omega
    have hx : x.cps[x.length - 1 - i]? = some x.cps[x.length - 1 - i] := Array.getElem?_eq_getElem hj
    refine next_rs_item hit hx hz fun h' st' sb => ?_
    have e2 : ((x.length - 1 - i : Nat) : Int) - 1 = (x.length : Int) - 1 - ((i + 1 : Nat) : Int) := by omega
    rw [e2] at st'
    have I1 : Inv X pins σ H { s with heap := h', toks := s.toks + 1 + 1 } :=
      I.turned (t' := s.toks + 1 + 1) (fun b o hb e => (sb.2 b hb).trans e) f0 f1 f3 f4 f5
    obtain ⟨o, e, c, d⟩ := id st'
    refine ⟨_, rfl, go_of (s := { s with heap := h', toks := s.toks + 1 + 1 }) e c d (by decide) ?_⟩
    exact ⟨.str ⟨#[x.cps[x.length - 1 - i]]⟩, H, I1, ⟨_, rfl⟩, ⟨rfl, _, hx, rfl⟩, ⟨hin, st'⟩, fun b hb => (hf b hb).1⟩
  done := by
    intro X hP hw hK hc i pins s σ H E I hf st hg
    subst hP hw hK
    obtain ⟨f0, f1, f2, f3, f4, f5⟩ := hf it (by simp)
    obtain ⟨hin, hit⟩ := st
    have hge : x.length ≤ i := hg
    have e1 : (x.length : Int) - 1 - ((i : Nat) : Int) = -1 := by omega
    rw [e1] at hit
    refine next_rs_end (I.ok.hd hc) hit fun h' eb => ⟨rfl, ?_⟩
    exact I.turned (t' := s.toks) (fun b o hb e => eb b o hb e) f0 f1 f3 f4 f5
  self := fun A i s Q E st h => iter_rs st.2 h
def iRevS (te : TE) : TI := fun σ H R => te σ H fun v H1 => ∃ x : Str, v = .str x ∧ x.length ≤ sizeLine ∧ R (Itrs x) H1
theorem pi_revS {X : Cx} {tg e : Expr} {te : TE} {p pos : Pos} (hg : Gl X "reversed") (hm : X.mg "reversed" = none) (he : PE X e te) (hs : starEach [e] X.env = (false, eval e X.env) :: starEach [] X.env := by rfl) :
    PI X tg (.Call (.Name "reversed" p) [e] [] pos) (iRevS te) := by
  constructor
  intro pins s σ H R I h
  refine Call_ (ld_blt I hg hm PyProof.Rows.boot_reversed (PyProof.Rows.callWith_type1
    (args_cons (thn (he.run pins s σ H _ I h) fun u s1 ⟨v, H1, I1, r1, q1⟩ => args_nil ?_) hs) hs rfl))
  obtain ⟨x, rfl, hz, q⟩ := q1
  obtain ⟨t, rfl⟩ := r1
  have e1 : (x.length : Int) - 1 = (x.length : Int) - 1 - ((0 : Nat) : Int) := by omega
  refine call_reversed_str hz (iter_rs (x := x) (t := t) (i := (x.length : Int) - 1) ⟨_, Heap.get?_push_size _ rfl, rfl, rfl⟩ ?_)
  refine pi_one (tk := s1.toks + 1 + 1) I1 _ (turn_rs x t _) ⟨Nat.zero_le _, ?_⟩ q
  rw [← e1]
  exact ⟨_, Heap.get?_push_size _ rfl, rfl, rfl⟩
end L2

/-! Walks of reversed, zip, enumerate; f-strings; what is never done. -/
namespace T
open PySem L2
section
variable {K : Fg}
/-- what is read as a list, the script too -/
def lstX (ω : Om) : D → Option (List D)
  | .lst ds => some ds
  | .scr ns => some (ns.map .int)
  | .ref a => match ω a with
    | some (.lst ds) => some ds
    | _ => none
  | _ => none
theorem lstX_of {z : Z} (k : z.Ok K) {v : V} {d : D} {ds : List D} (r : Rep K z.d v d) (h : lstX z.o d = some ds) : ∃ a xs, v = .ref a ∧ SqL K z.h a xs ∧ RepL K z.d xs ds := by
  cases r with
  | lst h1 h2 => cases h; exact ⟨_, _, rfl, SqL.of (k.fz _ _ h1), h2⟩
  | @scr a ns h1 => cases h; exact ⟨_, _, rfl, k.fz.sql h1, .of_ints ns⟩
  | ref a =>
    cases e : z.o a with
    | none => simp [lstX, e] at h
    | some c =>
      cases c with
      | lst es =>
        simp [lstX, e] at h
        subst h
        obtain ⟨_, xs, h1, h2⟩ := k.cell a _ e
        exact ⟨a, xs, rfl, SqL.of h1, h2⟩
      | _ => simp [lstX, e] at h
  | _ => simp [lstX] at h
theorem sql_inj {H : Hp} {a : Addr} {xs ys : List V} (h : SqL K H a xs) (g : SqL K H a ys) : True := trivial
/-! reversed -/
theorem it_rev {z : Z} {a : Addr} {d : D} {ds : List D} {n : Nat} (hr : Rep K z.d (.ref a) d) (hn : n = ds.length) : ItOk K (Itv K a n) z ds.reverse fun ω => lstX ω d = some ds where
  go := fun i z1 t hc hi => by
    subst hn
    have hi : i < ds.length := by simpa using hi
    obtain ⟨b, xs, e, hs, rx⟩ := lstX_of t.ok (hr.mono t.ex) hc
    cases e
    have hj : ds.length - 1 - i < ds.length := by omega
    obtain ⟨x, hx, rx2⟩ := rx.get (List.getElem?_eq_getElem hj)
    refine ⟨⟨hi, xs, x, hs, hx⟩, fun y H' hy => ⟨z1, ds[ds.length - 1 - i], t.ok.to, hy.1.symm, rfl, ?_, ?_⟩⟩
    · rw [List.getElem?_reverse hi, List.getElem?_eq_getElem hj]
    · have := hy.2 xs hs
      rw [hx] at this; cases this
      exact rx2
  stop := fun i z1 t _ hi => by
    subst hn
    show ds.length ≤ i
    simpa using hi
def biRev (a : BA K) : BI K where
  t := fun W => iRev K (a.t W)
  w := fun ρ ω Φ Ψ => a.w ρ ω (fun xs ω1 => match xs with
    | [d] => optW (lstX ω1 d) fun ds => Φ ds.reverse (fun ω' => lstX ω' d = some ds) ω1
    | _ => False) Ψ
  ok := fun W ρ z σ R Φ Ψ h o r q qx => by
    refine a.ok W ρ z σ _ _ Ψ h o r (fun vs z1 ds t1 r1 h1 => ?_) qx
    split at h1
    · obtain ⟨x, rfl, rx⟩ := rep1 r1
      obtain ⟨es, e1, h2⟩ := optW_iff.mp h1
      obtain ⟨b, xs, rfl, hs, ry⟩ := lstX_of t1.ok rx e1
      exact ⟨b, xs, rfl, hs, q _ z1 _ _ t1 (it_rev rx ry.length) h2⟩
    · exact h1.elim
theorem it_revS (z : Z) (s : List Nat) (hz : s.length ≤ sizeLine) : ItOk K (Itrs ⟨s.toArray⟩) z (s.reverse.map fun c => .str [c]) fun _ => True where
  go := fun i z1 t _ hi => by
    have hi : i < s.length := by simpa using hi
    have hl := sOf_len s
    refine ⟨⟨by rw [hl]; exact hi, by rw [hl]; exact hz⟩, fun y H' hy => ?_⟩
    obtain ⟨e0, c, hc, rfl⟩ := hy
    have hj : s.length - 1 - i < s.length := by omega
    have hc2 : s[s.length - 1 - i]? = some c := by
      have : s.toArray[(⟨s.toArray⟩ : Str).length - 1 - i]? = some c := hc
      rw [hl] at this
      simpa using this
    refine ⟨z1, .str [c], t.ok.to, e0.symm, rfl, ?_, .str [c]⟩
    rw [List.getElem?_map, List.getElem?_reverse hi, hc2]
    rfl
  stop := fun i z1 t _ hi => by
    show (⟨s.toArray⟩ : Str).length ≤ i
    rw [sOf_len]
    simpa using hi
def biRevS (e : BE K) : BI K where
  t := fun W => iRevS (e.t W)
  w := fun ρ ω Φ Ψ => e.w ρ ω (fun x ω1 => match x with
    | .str s => NeedW (s.length ≤ 16777216) (Φ (s.reverse.map fun c => .str [c]) (fun _ => True) ω1)
    | _ => False) Ψ
  ok := fun W ρ z σ R Φ Ψ h o r q qx => by
    refine e.ok W ρ z σ _ _ Ψ h o r (fun v z1 d t1 r1 h1 => ?_) qx
    split at h1
    · rename_i s
      cases r1
      have hz : s.length ≤ sizeLine := by rw [sizeLine_eq]; exact h1.1
      exact ⟨_, rfl, by rw [sOf_len]; exact hz, q _ z1 _ _ t1 (it_revS z1 s hz) h1.2⟩
    · exact h1.elim
/-! zip, enumerate -/
def zipD (ds es : List D) : List D := List.zipWith (fun x y => .tup [x, y]) ds es
def enumD (n : Nat) : List D → List D
  | [] => []
  | d :: r => .tup [.int (n : Nat), d] :: enumD (n + 1) r
theorem enumD_len : ∀ (n : Nat) (ds : List D), (enumD n ds).length = ds.length
  | _, [] => rfl
  | n, d :: r => by simp [enumD, enumD_len (n + 1) r]
theorem enumD_get : ∀ (n : Nat) (ds : List D) (i : Nat), (enumD n ds)[i]? = ds[i]?.map fun d => .tup [.int ((n + i : Nat) : Int), d]
  | _, [], i => by simp [enumD]
  | n, d :: r, 0 => by simp [enumD]
  | n, d :: r, i + 1 => by
    simp only [enumD, List.getElem?_cons_succ]
    rw [enumD_get (n + 1) r i]
    have : n + 1 + i = n + (i + 1) := by omega
    rw [this]
theorem it_zip {z : Z} {a b : Addr} {d e : D} {ds es : List D} (hd : Rep K z.d (.ref a) d) (he : Rep K z.d (.ref b) e) : ItOk K (Itz K a b) z (zipD ds es) fun ω => lstX ω d = some ds ∧ lstX ω e = some es where
  go := fun i z1 t hc hi => by
    have hi : i < min ds.length es.length := by simpa [zipD] using hi
    obtain ⟨a', xs, e1, hs1, rx⟩ := lstX_of t.ok (hd.mono t.ex) hc.1
    obtain ⟨b', ys, e2, hs2, ry⟩ := lstX_of t.ok (he.mono t.ex) hc.2
    cases e1; cases e2
    have h1 : i < ds.length := by omega
    have h2 : i < es.length := by omega
    obtain ⟨x, hx, rx2⟩ := rx.get (List.getElem?_eq_getElem h1)
    obtain ⟨y, hy, ry2⟩ := ry.get (List.getElem?_eq_getElem h2)
    refine ⟨⟨xs, ys, x, y, hs1, hs2, hx, hy⟩, fun u H' hu => ?_⟩
    obtain ⟨p, x', y', rfl, hp, rfl, g1, g2⟩ := hu
    have := g1 xs hs1
    rw [hx] at this; cases this
    have := g2 ys hs2
    rw [hy] at this; cases this
    have tt := t.ok.add (o := .tup [x, y]) hp
    refine ⟨_, .tup [ds[i], es[i]], tt, rfl, rfl, ?_, .tup (SqT.of upd_same) (.cons (rx2.mono tt.ex) (.cons (ry2.mono tt.ex) .nil))⟩
    simp [zipD, List.getElem?_zipWith, h1, h2]
  stop := fun i z1 t hc hi => by
    have hi : min ds.length es.length ≤ i := by simpa [zipD] using hi
    obtain ⟨a', xs, e1, hs1, rx⟩ := lstX_of t.ok (hd.mono t.ex) hc.1
    obtain ⟨b', ys, e2, hs2, ry⟩ := lstX_of t.ok (he.mono t.ex) hc.2
    cases e1; cases e2
    exact ⟨xs, ys, hs1, hs2, by rw [rx.length, ry.length]; omega⟩
def biZip (a : BA K) : BI K where
  t := fun W => iZip K (a.t W)
  w := fun ρ ω Φ Ψ => a.w ρ ω (fun xs ω1 => match xs with
    | [d, e] => optW (lstX ω1 d) fun ds => optW (lstX ω1 e) fun es => Φ (zipD ds es) (fun ω' => lstX ω' d = some ds ∧ lstX ω' e = some es) ω1
    | _ => False) Ψ
  ok := fun W ρ z σ R Φ Ψ h o r q qx => by
    refine a.ok W ρ z σ _ _ Ψ h o r (fun vs z1 ds t1 r1 h1 => ?_) qx
    split at h1
    · obtain ⟨x, y, rfl, rx, ry⟩ := rep2 r1
      obtain ⟨us, e1, h2⟩ := optW_iff.mp h1
      obtain ⟨ws, e2, h3⟩ := optW_iff.mp h2
      obtain ⟨b, xs, rfl, hs, _⟩ := lstX_of t1.ok rx e1
      obtain ⟨c, ys, rfl, hs2, _⟩ := lstX_of t1.ok ry e2
      exact ⟨b, c, xs, ys, rfl, hs, hs2, q _ z1 _ _ t1 (it_zip rx ry) h3⟩
    · exact h1.elim
theorem it_enum {z : Z} {a : Addr} {d : D} {ds : List D} (hd : Rep K z.d (.ref a) d) : ItOk K (Ite K a) z (enumD 0 ds) fun ω => lstX ω d = some ds where
  go := fun i z1 t hc hi => by
    have hi : i < ds.length := by rw [enumD_len] at hi; exact hi
    obtain ⟨a', xs, e1, hs1, rx⟩ := lstX_of t.ok (hd.mono t.ex) hc
    cases e1
    obtain ⟨x, hx, rx2⟩ := rx.get (List.getElem?_eq_getElem hi)
    refine ⟨⟨xs, x, hs1, hx⟩, fun u H' hu => ?_⟩
    obtain ⟨p, x', rfl, hp, rfl, g1⟩ := hu
    have := g1 xs hs1
    rw [hx] at this; cases this
    have tt := t.ok.add (o := .tup [.int (i : Nat), x]) hp
    refine ⟨_, .tup [.int (i : Nat), ds[i]], tt, rfl, rfl, ?_, .tup (SqT.of upd_same) (.cons (.int _) (.cons (rx2.mono tt.ex) .nil))⟩
    rw [enumD_get, List.getElem?_eq_getElem hi]
    simp
  stop := fun i z1 t hc hi => by
    obtain ⟨a', xs, e1, hs1, rx⟩ := lstX_of t.ok (hd.mono t.ex) hc
    cases e1
    exact ⟨xs, hs1, by rw [rx.length]; rw [enumD_len] at hi; exact hi⟩
def biEnum (a : BA K) : BI K where
  t := fun W => iEnum K (a.t W)
  w := fun ρ ω Φ Ψ => a.w ρ ω (fun xs ω1 => match xs with
    | [d] => optW (lstX ω1 d) fun ds => Φ (enumD 0 ds) (fun ω' => lstX ω' d = some ds) ω1
    | _ => False) Ψ
  ok := fun W ρ z σ R Φ Ψ h o r q qx => by
    refine a.ok W ρ z σ _ _ Ψ h o r (fun vs z1 ds t1 r1 h1 => ?_) qx
    split at h1
    · obtain ⟨x, rfl, rx⟩ := rep1 r1
      obtain ⟨us, e1, h2⟩ := optW_iff.mp h1
      obtain ⟨b, xs, rfl, hs, _⟩ := lstX_of t1.ok rx e1
      exact ⟨b, xs, rfl, hs, q _ z1 _ _ t1 (it_enum rx) h2⟩
    · exact h1.elim
/-! f'{x}..' of a number and a text -/
def bFmt (a : BE K) : BE K where
  t := fun W => tFmt (a.t W)
  w := fun ρ ω Φ Ψ => a.w ρ ω (fun x ω1 => match x with
    | .int i => (cStr : CB K).w [.int i] ω1 Φ
    | _ => False) Ψ
  ok := fun W ρ z σ Q Φ Ψ h k r q qx => by
    refine a.ok W ρ z σ _ _ Ψ h k r (fun x z1 d t1 r1 h1 => ?_) qx
    split at h1
    · cases r1
      exact .inr ⟨_, rfl, h1.1, q _ z1 _ t1 (rep_strI _) h1.2⟩
    · exact h1.elim
def strW (d : D) (F : List Nat → Prop) : Prop := match d with
  | .str s => F s
  | _ => False
theorem strW_rep {H : Hp} {v : V} {d : D} {F : List Nat → Prop} (h : strW d F) (r : Rep K H v d) : ∃ s, v = .str ⟨s.toArray⟩ ∧ F s := by
  cases r <;> first | exact ⟨_, rfl, h⟩ | exact h.elim
def bJoin2 (a b : BE K) : BE K where
  t := fun W => fun σ H Q => tJs [a.t W, b.t W] Str.empty σ H fun out H1 => Q (.str out) H1
  w := fun ρ ω Φ Ψ => a.w ρ ω (fun x ω1 => strW x fun s => NeedW (s.length ≤ 16777216) (b.w ρ ω1 (fun y ω2 => strW y fun t => NeedW (s.length + t.length ≤ 16777216) (Φ (.str (s ++ t)) ω2)) Ψ)) Ψ
  ok := fun W ρ z σ Q Φ Ψ h k r q qx => by
    refine a.ok W ρ z σ _ _ Ψ h k r (fun x z1 d t1 r1 h1 => ?_) qx
    obtain ⟨s, rfl, h1⟩ := strW_rep h1 r1
    have e0 : Str.empty ++ (⟨s.toArray⟩ : Str) = ⟨s.toArray⟩ := sOf_append [] s
    have inner : b.w ρ z1.o (fun y ω2 => strW y fun t => NeedW (s.length + t.length ≤ 16777216) (Φ (.str (s ++ t)) ω2)) Ψ := h1.2
    refine ⟨_, rfl, ?_, ?_⟩
    · rw [e0, sOf_len, sizeLine_eq]
      exact h1.1
    · rw [e0]
      refine b.ok W ρ z1 σ _ _ Ψ inner t1.ok (r.mono t1.ex) (fun y z2 e t2 r2 h2 => ?_) fun x cls d z2 t2 => qx x cls d z2 (t1.trans t2)
      obtain ⟨t, rfl, h2⟩ := strW_rep h2 r2
      refine ⟨_, rfl, ?_, ?_⟩
      · rw [sOf_append, sOf_len, sizeLine_eq, List.length_append]; exact h2.1
      · rw [sOf_append]
        exact q _ z2 _ (t1.trans t2) (.str _) h2.2
def bsNo : BS K where
  t := fun _ _ _ _ => False
  w := fun _ _ _ => False
  ok := fun W ρ z σ D' k h o r hk => h
end
section
variable {X : Cx} {W : WX} {st : Stmt} {e e2 tg : Expr} {es elts : List Expr} {A B : BE X.K} {As : BA X.K} {p pos tpos : Pos} {kk : Nat}
theorem S_no : PS X st ((bsNo : BS X.K).t W) := ⟨fun _ _ _ _ _ _ h => h.elim⟩
theorem I_reversed (hm : X.mg "reversed" = none) (ha : PA X [e] (As.t W)) (hg : Gl X "reversed" := by rfl) (hs : starEach [e] X.env = [(false, eval e X.env)] := by rfl) : PI X tg (.Call (.Name "reversed" p) [e] [] pos) ((biRev As).t W) := pi_reversed hg hm ha hs
theorem I_revS (hm : X.mg "reversed" = none) (ha : PE X e (A.t W)) (hg : Gl X "reversed" := by rfl) (hs : starEach [e] X.env = (false, eval e X.env) :: starEach [] X.env := by rfl) : PI X tg (.Call (.Name "reversed" p) [e] [] pos) ((biRevS A).t W) := pi_revS hg hm ha hs
theorem I_zip (hm : X.mg "zip" = none) (ha : PA X [e, e2] (As.t W)) (hg : Gl X "zip" := by rfl) (hs : starEach [e, e2] X.env = (false, eval e X.env) :: starEach [e2] X.env := by rfl) (hpl : (backTo pos (starEach [e2] X.env)).any (·.1) = false := by rfl) : PI X (.Tuple elts kk tpos) (.Call (.Name "zip" p) [e, e2] [] pos) ((biZip As).t W) := pi_zip hg hm ha hs hpl
theorem I_enumerate (hm : X.mg "enumerate" = none) (ha : PA X [e] (As.t W)) (hg : Gl X "enumerate" := by rfl) (hs : starEach [e] X.env = [(false, eval e X.env)] := by rfl) : PI X (.Tuple elts kk tpos) (.Call (.Name "enumerate" p) [e] [] pos) ((biEnum As).t W) := pi_enum hg hm ha hs
theorem P_fmt (h : PE X e (A.t W)) : PE X (.FormattedValue e (-1) none pos) ((bFmt A).t W) := pe_fmt h
theorem P_join2 (h : PE X e (A.t W)) (h2 : PE X e2 (B.t W)) : PE X (.JoinedStr [e, e2] pos) ((bJoin2 A B).t W) := pe_joined (.cons h (.cons h2 .nil))
end
section
variable {K : Fg} {ρ : En} {ω : Om} {Φ : D → Om → Prop} {Ψ : Exn → Om → Prop} {A B : BE K} {As : BA K} {d e : D} {i : Int} {s : List Nat} {ds : List D} {a : Addr} {ns : List Int} {Fi : List D → (Om → Prop) → Om → Prop} {FL : List D → Prop}
theorem x_fmt : (bFmt A).w ρ ω Φ Ψ = A.w ρ ω (fun x ω1 => intW x fun i => (cStr : CB K).w [.int i] ω1 Φ) Ψ := by
  show A.w ρ ω (fun x ω1 => match x with | .int i => (cStr : CB K).w [.int i] ω1 Φ | _ => False) Ψ = _
  congr
theorem x_strW {F : List Nat → Prop} : strW (.str s) F = F s := rfl
theorem x_join2 : (bJoin2 A B).w ρ ω Φ Ψ = A.w ρ ω (fun x ω1 => strW x fun s => NeedW (s.length ≤ 16777216) (B.w ρ ω1 (fun y ω2 => strW y fun t => NeedW (s.length + t.length ≤ 16777216) (Φ (.str (s ++ t)) ω2)) Ψ)) Ψ := rfl
def lxL (xs : List D) (ω : Om) (Φ : List D → (Om → Prop) → Om → Prop) (g : List D → List D) : Prop := match xs with
  | [d] => optW (lstX ω d) fun ds => Φ (g ds) (fun ω' => lstX ω' d = some ds) ω
  | _ => False
theorem x_birev : (biRev As).w ρ ω Fi Ψ = As.w ρ ω (fun xs ω1 => lxL xs ω1 Fi List.reverse) Ψ := rfl
theorem x_bienum : (biEnum As).w ρ ω Fi Ψ = As.w ρ ω (fun xs ω1 => lxL xs ω1 Fi (enumD 0)) Ψ := rfl
theorem x_lxL {g : List D → List D} : lxL [d] ω Fi g = optW (lstX ω d) fun ds => Fi (g ds) (fun ω' => lstX ω' d = some ds) ω := rfl
def lxZ (xs : List D) (ω : Om) (Φ : List D → (Om → Prop) → Om → Prop) : Prop := match xs with
  | [d, e] => optW (lstX ω d) fun ds => optW (lstX ω e) fun es => Φ (zipD ds es) (fun ω' => lstX ω' d = some ds ∧ lstX ω' e = some es) ω
  | _ => False
theorem x_bizip : (biZip As).w ρ ω Fi Ψ = As.w ρ ω (fun xs ω1 => lxZ xs ω1 Fi) Ψ := rfl
theorem x_lxZ : lxZ [d, e] ω Fi = optW (lstX ω d) fun ds => optW (lstX ω e) fun es => Fi (zipD ds es) (fun ω' => lstX ω' d = some ds ∧ lstX ω' e = some es) ω := rfl
theorem x_birevS : (biRevS A).w ρ ω Fi Ψ = A.w ρ ω (fun x ω1 => strW x fun s => NeedW (s.length ≤ 16777216) (Fi (s.reverse.map fun c => .str [c]) (fun _ => True) ω1)) Ψ := rfl
theorem x_lxx0 : optW (lstX ω (.lst ds)) FL = FL ds := rfl
theorem x_lxx1 : optW (lstX ω (.scr ns)) FL = FL (ns.map .int) := rfl
theorem x_lxx2 : optW (lstX ω (.ref a)) FL = cL (ω a) FL := by
  show optW (match ω a with | some (.lst ds) => some ds | _ => none) FL = _
  cases ω a with
  | none => rfl
  | some c => cases c <;> rfl
theorem lstX_ref {ω : Om} {a : Addr} {ds : List D} : lstX ω (.ref a) = some ds ↔ ω a = some (.lst ds) := lstOf_ref
theorem x_no {nx bk ct : En → Om → Prop} {rt : D → Om → Prop} {xc : Exn → En → Om → Prop} : (bsNo : BS K).w ρ ω ⟨nx, rt, bk, ct, xc⟩ = False := rfl
end
/-! bits -/
section
variable {K : Fg} {ω : Om} {Φ : D → Om → Prop} {i j : Int}
theorem x_band : (oAnd : O2 K).w (.int i) (.int j) ω Φ = Φ (.int (PySem.Builtin.bitAnd i j)) ω := rfl
theorem x_bor : (oOr : O2 K).w (.int i) (.int j) ω Φ = Φ (.int (PySem.Builtin.bitOr i j)) ω := rfl
theorem x_bxor : (oXor : O2 K).w (.int i) (.int j) ω Φ = Φ (.int (PySem.Builtin.bitXor i j)) ω := rfl
theorem x_shl (h : CShA i j) : (oShl : O2 K).w (.int i) (.int j) ω Φ = Φ (.int (i * 2 ^ j.toNat)) ω := propext ⟨fun z => z.2, fun z => ⟨h, z⟩⟩
theorem bits_le {i : Int} {n : Nat} (h0 : 0 ≤ i) (h : i < 2 ^ n) : PySem.Builtin.Int.intBits i ≤ n := by
  unfold PySem.Builtin.Int.intBits
  by_cases c : i = 0
  · subst c; exact Nat.zero_le _
  · rw [if_neg (by simpa using c)]
    have hn : i.natAbs ≠ 0 := by omega
    have h1 : i.natAbs < 2 ^ n := by
      have e : ((2 ^ n : Nat) : Int) = (2 : Int) ^ n := by simp
      omega
    have := (Nat.log2_lt hn).mpr h1
    omega
theorem shl_ok {i : Int} {n k : Nat} (h0 : 0 ≤ i) (h : i < 2 ^ n) (hn : n + k ≤ 134217728) : CShA i (k : Int) := by
  have := bits_le h0 h
  refine .inr ⟨by omega, ?_⟩
  have e : (2 : Int) ^ 27 = 134217728 := by decide
  rw [e]
  omega
end
end T

/-! Calls of built-ins with keywords; sorted; len(set(..)). -/
namespace T
open PySem L2
/-! max(xs, default=d), of numbers -/
def rMaxD (K : Fg) : List V → List V → Hp → VK → Prop := fun vs zs H Q => ∃ (a : Addr) (ns : List Int) (z : V), vs = [.ref a] ∧ zs = [z] ∧ SqL K H a (ns.map V.int) ∧ (ns = [] → Q z H) ∧ ∀ m, m ∈ ns → (∀ y, y ∈ ns → y ≤ m) → Q (.int m) H
theorem cr_maxD {X : Cx} (hc : X.calm = true) : CallRK X (.builtin "max") ["default"] (rMaxD X.K) := by
  intro pins s σ H xs zs us ws Q I rx rz h
  obtain ⟨a, ns, z, rfl, rfl, hs, q0, q1⟩ := h
  obtain ⟨its, rv, hl, _⟩ := I.list hs
  rw [Vals.ref1 rx]
  cases rz with
  | cons hz hn =>
  cases hn
  obtain ⟨xs, e⟩ := rv.ints.allInts.items
  have hi : PySem.numsOf (intItems xs).toList = ns := by rw [← e]; exact rv.ints.numsOf
  rw [PySem.nums_intItems] at hi
  subst hi
  have hl := hl.isList
  rw [e] at hl
  have hsz : (intItems xs).size = xs.size := by simp [intItems]
  refine call_max_walkD (PySem.W.iter_listW (A := X.A.in1) (I.ok.hd hc) hl fun s₂ e2 W st hfp hw hk => ?_)
  refine ⟨_, _, _, _, _, _, _, s.heap, (fun i j => decide (numAt xs i > numAt xs j)), rfl, W, st, hfp, hw, hk, fun hz0 s' m => ?_, fun hp => ⟨fun i j vi vj s' Q' E' _ h1 h2 h3 => CmpOf.ints_gt (numAt xs) (P := fun i v => (intItems xs)[i]? = some v) (fun _ _ => intItems_at) i j vi vj s' Q' E' h1 h2 h3, fun v s' hP m => ?_⟩⟩
  · obtain ⟨h', tk, rfl, hk'⟩ := PySem.W.moved_old e2 rfl m
    refine ⟨z, H, I.kept hk', hz, q0 ?_⟩
    have : xs.size = 0 := by rw [← hsz]; exact hz0
    simpa using this
  · obtain ⟨h', tk, rfl, hk'⟩ := PySem.W.moved_old e2 rfl m
    rw [hsz] at hp hP
    obtain ⟨t, rfl⟩ := intItems_at hP
    obtain ⟨h1, h2⟩ := argBest_gt (numAt xs) (xs.size - 1)
    refine ⟨.int _, H, I.kept hk', ⟨_, rfl⟩, q1 _ ?_ fun y hy => ?_⟩
    · rw [PySem.numAt_eq]; exact PySem.getD_mem (by rw [List.length_map, Array.length_toList]; omega)
    · obtain ⟨j, hj, rfl⟩ := PySem.mem_getD hy
      rw [List.length_map, Array.length_toList] at hj
      rw [← PySem.numAt_eq]; exact h2 j (by omega)
section
variable {K : Fg}
structure CBK (K : Fg) where
  r : List V → List V → Hp → VK → Prop
  w : List D → List D → Om → (D → Om → Prop) → Prop
  ok : ∀ (z : Z) (xs ys : List V) (ds es : List D) (Q : VK) (Φ : D → Om → Prop), w ds es z.o Φ → z.Ok K → RepL K z.d xs ds → RepL K z.d ys es → (∀ v z2 c, To K z z2 → Rep K z2.d v c → Φ c z2.o → Q v z2.h) → r xs ys z.h Q
def bCBK (c : CBK K) (a k : BA K) : BE K where
  t := fun W => tCKw c.r (a.t W) (k.t W)
  w := fun ρ ω Φ Ψ => a.w ρ ω (fun xs ω1 => k.w ρ ω1 (fun ys ω2 => c.w xs ys ω2 Φ) Ψ) Ψ
  ok := fun W ρ z σ Q Φ Ψ h o r q qx => by
    refine a.ok W ρ z σ _ _ Ψ h o r (fun xs z1 ds t1 r1 h1 => ?_) qx
    refine k.ok W ρ z1 σ _ _ Ψ h1 t1.ok (r.mono t1.ex) (fun ys z2 es t2 r2 h2 => ?_) fun x cls d z2 t2 => qx x cls d z2 (t1.trans t2)
    exact c.ok z2 xs ys ds es Q Φ h2 t2.ok (r1.mono t2.ex) r2 fun v z3 d t3 => q v z3 d ((t1.trans t2).trans t3)
/-- the greatest of numbers, d of none -/
def cMaxD : CBK K where
  r := rMaxD K
  w := fun ds es ω Φ => match ds, es with
    | [d], [e] => optW (lstOf ω d) fun us => optW (intsOf us) fun ns => (ns = [] → Φ e ω) ∧ ∀ m, m ∈ ns → (∀ y, y ∈ ns → y ≤ m) → Φ (.int m) ω
    | _, _ => False
  ok := fun z xs ys ds es Q Φ h k r r' q => by
    split at h
    · obtain ⟨x, rfl, r1⟩ := rep1 r
      obtain ⟨y, rfl, r2⟩ := rep1 r'
      obtain ⟨us, h1, h⟩ := optW_iff.mp h
      obtain ⟨ns, h2, h3, h⟩ := optW_iff.mp h
      obtain ⟨a, ys, rfl, ha, ry⟩ := lstOf_seq k r1 h1
      rw [intsOf_eq h2] at ry
      rw [RepL.ints ry] at ha
      exact ⟨a, ns, y, rfl, rfl, ha, fun c => q _ z _ k.to r2 (h3 c), fun m m1 m2 => q _ z _ k.to (.int _) (h m m1 m2)⟩
    · exact h.elim
theorem call_cMaxD {X : Cx} (hc : X.calm = true := by rfl) : CallRK X (.builtin "max") ["default"] (cMaxD (K := X.K)).r := cr_maxD hc
/-- sorted(xs), of numbers -/
def cSortI (own : Bool) : CB K where
  r := rSortedI K
  w := fun ds ω Φ => match ds with
    | [d] => optW (lstOf ω d) fun us => optW (intsOf us) fun ns => ∀ ns' : List Int, ns'.Perm ns → ns'.Pairwise (· ≤ ·) → if own = true then ∀ a, ω a = none → Φ (.ref a) (ω.set a (.lst (ns'.map .int))) else Φ (.lst (ns'.map .int)) ω
    | _ => False
  ok := fun z xs ds Q Φ h k r q => by
    split at h
    · obtain ⟨x, rfl, r1⟩ := rep1 r
      obtain ⟨us, h1, h⟩ := optW_iff.mp h
      obtain ⟨ns, h2, h⟩ := optW_iff.mp h
      obtain ⟨a, ys, rfl, ha, ry⟩ := lstOf_seq k r1 h1
      rw [intsOf_eq h2] at ry
      rw [RepL.ints ry] at ha
      refine ⟨a, ns, rfl, ha, fun ns' p p1 p2 hp => ?_⟩
      have h3 := h ns' p1 p2
      cases own with
      | true =>
        have t := k.lay (o := .lst (ns'.map V.int)) (c := .lst (ns'.map .int)) hp ⟨_, upd_same, .of_ints ns'⟩
        exact q _ _ _ t (.ref p) (h3 p (k.free hp).2)
      | false =>
        have t := k.add (o := .lst (ns'.map V.int)) hp
        exact q _ _ _ t (.lst upd_same (.of_ints ns')) h3
    · exact h.elim
theorem call_cSortI {X : Cx} {b : Bool} : CallR X (.builtin "sorted") (cSortI (K := X.K) b).r := cr_sortedI
/-- len(set(xs)), of unlike numbers -/
def bLenSetI (a : BE K) : BE K where
  t := fun W => RZ.tLenSetI K (a.t W)
  w := fun ρ ω Φ Ψ => a.w ρ ω (fun x ω1 => optW (lstOf ω1 x) fun us => optW (intsOf us) fun ns => NeedW (ns.Nodup ∧ ns.length ≤ 4000) (Φ (.int (ns.length : Nat)) ω1)) Ψ
  ok := fun W ρ z σ Q Φ Ψ h k r q qx => by
    refine a.ok W ρ z σ _ _ Ψ h k r (fun x z1 d t1 r1 h1 => ?_) qx
    obtain ⟨us, h2, h1⟩ := optW_iff.mp h1
    obtain ⟨ns, h3, h1⟩ := optW_iff.mp h1
    obtain ⟨l, ys, rfl, ha, ry⟩ := lstOf_seq t1.ok r1 h2
    rw [intsOf_eq h3] at ry
    rw [RepL.ints ry] at ha
    exact ⟨l, ns, rfl, ha, h1.1.1, h1.1.2, q _ z1 _ t1 (.int _) h1.2⟩
end
section
variable {X : Cx} {W : WX} {e a : Expr} {es : List Expr} {kws : List Keyword} {A : BE X.K} {As Ks : BA X.K} {p p2 q pos kpos : Pos} {x id : String} {ks : List Str} {nm : Option Str}
structure KA (X : Cx) (kws : List Keyword) (t : TA) : Prop where
  pk : PK X kws t
theorem K_n : KA X [] ((baN : BA X.K).t W) := ⟨pk_nil⟩
theorem K_c (ha : PE X e (A.t W)) (hr : KA X kws (As.t W)) : KA X (⟨nm, e, kpos⟩ :: kws) ((baC A As).t W) := ⟨pk_cons ha hr.pk⟩
theorem P_BK {cb : CBK X.K} {x : Str} (hc : CallRK X (.builtin id) ks cb.r) (hm : X.mg x = none) (hv : bootBuiltins x = some (.builtin id)) (ha : PA X (e :: es) (As.t W)) (hk : KA X kws (Ks.t W)) (hg : Gl X x := by rfl) (hn : x ≠ "__name__" := by decide) (hdb : (x == ("__debug__" : Str)) = false := by decide)
    (he : backTo pos (starEach (e :: es) X.env) = (false, eval e X.env) :: backTo pos (starEach es X.env) := by rfl) (hpl : (backTo pos (starEach (e :: es) X.env)).any (·.1) = false := by rfl)
    (hall : (backToKw pos (keywordEach kws X.env)).all (·.1.isSome) = true := by rfl) (hnone : (backToKw pos (keywordEach kws X.env)).any (·.1.isNone) = false := by rfl) (hks : (backToKw pos (keywordEach kws X.env)).filterMap (·.1) = ks := by rfl) :
    PE X (.Call (.Name x p) (e :: es) kws pos) ((bCBK cb As Ks).t W) := pe_callBK hc hg hm hv ha hk.pk hn hdb he hpl hall hnone hks
theorem P_lenSetI (hm : X.mg "len" = none) (hm2 : X.mg "set" = none) (ha : PE X a (A.t W)) (hg : Gl X "len" := by rfl) (hg2 : Gl X "set" := by rfl) (hc : X.calm = true := by rfl)
    (na : starEach [a] X.env = (false, eval a X.env) :: starEach [] X.env := by rfl) : PE X (.Call (.Name "len" p) [.Call (.Name "set" p2) [a] [] q] [] pos) ((bLenSetI A).t W) := RZ.pe_lenSetI hg hm hg2 hm2 ha hc na
end
section
variable {K : Fg} {ρ : En} {ω : Om} {Φ : D → Om → Prop} {Ψ : Exn → Om → Prop} {A : BE K} {As Ks : BA K} {d e : D}
theorem x_cbk {c : CBK K} : (bCBK c As Ks).w ρ ω Φ Ψ = As.w ρ ω (fun xs ω1 => Ks.w ρ ω1 (fun ys ω2 => c.w xs ys ω2 Φ) Ψ) Ψ := rfl
theorem x_maxD : (cMaxD : CBK K).w [d] [e] ω Φ = optW (lstOf ω d) fun us => optW (intsOf us) fun ns => (ns = [] → Φ e ω) ∧ ∀ m, m ∈ ns → (∀ y, y ∈ ns → y ≤ m) → Φ (.int m) ω := rfl
theorem x_sortI : (cSortI false : CB K).w [d] ω Φ = optW (lstOf ω d) fun us => optW (intsOf us) fun ns => ∀ ns' : List Int, ns'.Perm ns → ns'.Pairwise (· ≤ ·) → Φ (.lst (ns'.map .int)) ω := rfl
theorem x_sortIo : (cSortI true : CB K).w [d] ω Φ = optW (lstOf ω d) fun us => optW (intsOf us) fun ns => ∀ ns' : List Int, ns'.Perm ns → ns'.Pairwise (· ≤ ·) → ∀ a, ω a = none → Φ (.ref a) (ω.set a (.lst (ns'.map .int))) := rfl
theorem x_lenSetI : (bLenSetI A).w ρ ω Φ Ψ = A.w ρ ω (fun x ω1 => optW (lstOf ω1 x) fun us => optW (intsOf us) fun ns => NeedW (ns.Nodup ∧ ns.length ≤ 4000) (Φ (.int (ns.length : Nat)) ω1)) Ψ := rfl
end
section
variable {K : Fg} {ρ : En} {ω : Om} {G : BG K} {S : BS K} {k : KD} {d : D} {ds : List D} {T1 : BT K} {A : BE K}
theorem z_fgN {nx bk ct : En → Om → Prop} {rt : D → Om → Prop} {xc : Exn → En → Om → Prop} : forGo (fun _ => True) G S ⟨nx, rt, bk, ct, xc⟩ [] ρ ω = nx ρ ω := cond trivial
theorem z_fgC {nx bk ct : En → Om → Prop} {rt : D → Om → Prop} {xc : Exn → En → Om → Prop} : forGo (fun _ => True) G S ⟨nx, rt, bk, ct, xc⟩ (d :: ds) ρ ω = G.w d ρ ω fun ρ1 ω1 => S.w ρ1 ω1 ⟨forGo (fun _ => True) G S ⟨nx, rt, bk, ct, xc⟩ ds, rt, nx, forGo (fun _ => True) G S ⟨nx, rt, bk, ct, xc⟩ ds, xc⟩ := cond trivial
/-- a comprehension by a word of the turn -/
theorem lc_go {chk : Om → Prop} {F : List D → Om → Prop} (J : Nat → List D → Om → Prop) {ds : List D}
    (hs : ∀ (i : Nat) (d : D) (acc : List D) (ω1 : Om) (N : List D → Om → Prop), ds[i]? = some d → J i acc ω1 → (∀ acc2 ω2, J (i + 1) acc2 ω2 → N acc2 ω2) →
      chk ω1 ∧ G.w d ρ ω1 fun ρ1 ω2 => T1.w ρ1 ω2 (fun b ω3 => if b = true then A.w ρ1 ω3 (fun y ω4 => acc.length < sizeLine ∧ N (acc ++ [y]) ω4) X0 else N acc ω3) X0)
    (he : ∀ acc ω1, J ds.length acc ω1 → chk ω1 ∧ F acc ω1) {acc : List D} (h0 : J 0 acc ω) : lcGo chk G T1 A ρ F ds acc ω := by
  have key : ∀ (m i : Nat) (acc : List D) (ω1 : Om), i + m = ds.length → J i acc ω1 → lcGo chk G T1 A ρ F (ds.drop i) acc ω1 := by
    intro m
    induction m with
    | zero =>
      intro i acc ω1 e h
      have e : i = ds.length := by omega
      subst e
      rw [List.drop_length]
      exact he acc ω1 h
    | succ m ih =>
      intro i acc ω1 e h
      have hi : i < ds.length := by omega
      rw [List.drop_eq_getElem_cons hi]
      exact hs i _ acc ω1 (fun acc2 ω2 => lcGo chk G T1 A ρ F (ds.drop (i + 1)) acc2 ω2) (List.getElem?_eq_getElem hi) h fun acc2 ω2 h2 => ih (i + 1) acc2 ω2 (by omega) h2
  have := key ds.length 0 acc ω (by omega) h0
  simpa using this
/-- a comprehension over things of one kind -/
theorem lc_mapT {α : Type} {chk : Om → Prop} {F : List D → Om → Prop} {i : Nat} (mk f : α → D) (ns : List α) (hz : ns.length ≤ 16777216) (hc : chk ω) (h : ∀ n ∈ ns, ∀ Q : D → Om → Prop, Q (f n) ω → A.w (ρ.set i (some (mk n))) ω Q X0) (hF : F (ns.map f) ω) : lcGo chk (bgN i : BG K) btYes A ρ F (ns.map mk) [] ω := by
  have key : ∀ (ns : List α) (acc : List D), acc.length + ns.length ≤ 16777216 → (∀ n ∈ ns, ∀ Q : D → Om → Prop, Q (f n) ω → A.w (ρ.set i (some (mk n))) ω Q X0) → F (acc ++ ns.map f) ω → lcGo chk (bgN i : BG K) btYes A ρ F (ns.map mk) acc ω := by
    intro ns
    induction ns with
    | nil => intro acc _ _ hF; exact ⟨hc, by simpa using hF⟩
    | cons n r ih =>
      intro acc hz h hF
      refine ⟨hc, ?_⟩
      show (if true = true then A.w (ρ.set i (some (mk n))) ω (fun y ω3 => acc.length < sizeLine ∧ lcGo chk (bgN i) btYes A ρ F (r.map mk) (acc ++ [y]) ω3) X0 else lcGo chk (bgN i) btYes A ρ F (r.map mk) acc ω)
      rw [if_pos rfl]
      refine h n List.mem_cons_self _ ⟨by rw [sizeLine_eq]; simp at hz; omega, ?_⟩
      exact ih (acc ++ [f n]) (by simp at hz ⊢; omega) (fun m hm => h m (List.mem_cons_of_mem _ hm)) (by simpa using hF)
  exact key ns [] (by simpa using hz) h (by simpa using hF)
theorem lc_filtT {α : Type} {chk : Om → Prop} {F : List D → Om → Prop} {i : Nat} (mk f : α → D) (p : α → Bool) (ns : List α) (hz : ns.length ≤ 16777216) (hc : chk ω) (ht : ∀ n ∈ ns, ∀ Q : Bool → Om → Prop, Q (p n) ω → T1.w (ρ.set i (some (mk n))) ω Q X0) (h : ∀ n ∈ ns, p n = true → ∀ Q : D → Om → Prop, Q (f n) ω → A.w (ρ.set i (some (mk n))) ω Q X0) (hF : F ((ns.filter p).map f) ω) : lcGo chk (bgN i : BG K) T1 A ρ F (ns.map mk) [] ω := by
  have key : ∀ (ns : List α) (acc : List D), acc.length + ns.length ≤ 16777216 → (∀ n ∈ ns, ∀ Q : Bool → Om → Prop, Q (p n) ω → T1.w (ρ.set i (some (mk n))) ω Q X0) → (∀ n ∈ ns, p n = true → ∀ Q : D → Om → Prop, Q (f n) ω → A.w (ρ.set i (some (mk n))) ω Q X0) → F (acc ++ (ns.filter p).map f) ω → lcGo chk (bgN i : BG K) T1 A ρ F (ns.map mk) acc ω := by
    intro ns
    induction ns with
    | nil => intro acc _ _ _ hF; exact ⟨hc, by simpa using hF⟩
    | cons n r ih =>
      intro acc hz ht h hF
      refine ⟨hc, ?_⟩
      refine ht n List.mem_cons_self _ ?_
      cases e : p n with
      | true =>
        rw [if_pos rfl]
        refine h n List.mem_cons_self e _ ⟨by rw [sizeLine_eq]; simp at hz; omega, ?_⟩
        exact ih (acc ++ [f n]) (by simp at hz ⊢; omega) (fun m hm => ht m (List.mem_cons_of_mem _ hm)) (fun m hm => h m (List.mem_cons_of_mem _ hm)) (by simpa [List.filter_cons, e] using hF)
      | false =>
        rw [if_neg Bool.false_ne_true]
        exact ih acc (by simp at hz ⊢; omega) (fun m hm => ht m (List.mem_cons_of_mem _ hm)) (fun m hm => h m (List.mem_cons_of_mem _ hm)) (by simpa [List.filter_cons, e] using hF)
  exact key ns [] (by simpa using hz) ht h (by simpa using hF)
theorem joinL0 (S : List Nat) : TL.joinL S [] = [] := rfl
theorem joinL1 (S p : List Nat) : TL.joinL S [p] = p := rfl
theorem joinL2 (S p q : List Nat) (r : List (List Nat)) : TL.joinL S (p :: q :: r) = p ++ (S ++ TL.joinL S (q :: r)) := rfl
theorem joinL_len (S : List Nat) : ∀ ts : List (List Nat), (TL.joinL S ts).length ≤ (ts.map (·.length)).sum + ts.length * S.length
  | [] => by simp [joinL0]
  | [p] => by simp [joinL1]
  | p :: q :: r => by
    rw [joinL2]
    have := joinL_len S (q :: r)
    simp only [List.length_append, List.map_cons, List.sum_cons, List.length_cons] at this ⊢
    have e : (r.length + 1 + 1) * S.length = (r.length + 1) * S.length + S.length := by rw [Nat.add_mul (r.length + 1) 1]; omega
    omega
theorem sum_le {n : Nat} : ∀ ts : List (List Nat), (∀ t ∈ ts, t.length ≤ n) → (ts.map (·.length)).sum ≤ ts.length * n
  | [], _ => by simp
  | t :: r, h => by
    have := sum_le r fun x hx => h x (List.mem_cons_of_mem _ hx)
    have := h t List.mem_cons_self
    simp only [List.map_cons, List.sum_cons, List.length_cons]
    rw [Nat.add_mul]
    omega
theorem joinL_snoc (S : List Nat) (q : List Nat) : ∀ ts : List (List Nat), ts ≠ [] → TL.joinL S (ts ++ [q]) = TL.joinL S ts ++ (S ++ q)
  | [], h => absurd rfl h
  | [p], _ => rfl
  | p :: p2 :: r, _ => by
    show TL.joinL S (p :: p2 :: (r ++ [q])) = _
    rw [joinL2, joinL2]
    have := joinL_snoc S q (p2 :: r) (by simp)
    simp only [List.cons_append] at this
    rw [this]
    simp only [List.append_assoc]
theorem joinL_mem {S : List Nat} {c : Nat} : ∀ {ts : List (List Nat)}, c ∈ TL.joinL S ts → c ∈ S ∨ ∃ t ∈ ts, c ∈ t
  | [], h => by simp [joinL0] at h
  | [p], h => .inr ⟨p, by simp, h⟩
  | p :: q :: r, h => by
    rw [joinL2] at h
    rcases List.mem_append.mp h with h | h
    · exact .inr ⟨p, by simp, h⟩
    · rcases List.mem_append.mp h with h | h
      · exact .inl h
      · rcases joinL_mem h with h | ⟨t, h1, h2⟩
        · exact .inl h
        · exact .inr ⟨t, List.mem_cons_of_mem _ h1, h2⟩
/-- sorted lists with the same members are alike -/
theorem perm_sorted : ∀ {a b : List Int}, a.Perm b → a.Pairwise (· ≤ ·) → b.Pairwise (· ≤ ·) → a = b
  | [], b, h, _, _ => (List.nil_perm.mp h).symm ▸ rfl
  | x :: a, [], h, _, _ => absurd (List.perm_nil.mp h) (by simp)
  | x :: a, y :: b, h, ha, hb => by
    have hx : x ≤ y ∧ y ≤ x := by
      have h1 : y ∈ x :: a := h.mem_iff.mpr List.mem_cons_self
      have h2 : x ∈ y :: b := h.mem_iff.mp List.mem_cons_self
      rw [List.pairwise_cons] at ha hb
      constructor
      · rcases List.mem_cons.mp h1 with e | e
        · omega
        · exact ha.1 y e
      · rcases List.mem_cons.mp h2 with e | e
        · omega
        · exact hb.1 x e
    have e : x = y := by omega
    subst e
    rw [perm_sorted (h.cons_inv) (List.Pairwise.of_cons ha) (List.Pairwise.of_cons hb)]
end
end T

/-! Equality of data; cells that stay. -/
namespace T
open PySem L2
/-- may be compared, at most n deep -/
def dOk (n : Nat) (d : D) : Prop := eqD d = true ∧ dpt d ≤ n
theorem eqDL_of : ∀ {ds : List D}, (∀ d ∈ ds, eqD d = true) → eqDL ds = true
  | [], _ => by simp [eqDL]
  | d :: r, h => by simp [eqDL, h d List.mem_cons_self, eqDL_of fun x hx => h x (List.mem_cons_of_mem _ hx)]
theorem dptL_of {n : Nat} : ∀ {ds : List D}, (∀ d ∈ ds, dpt d ≤ n) → dptL ds ≤ n
  | [], _ => by simp [dptL]
  | d :: r, h => by
    have h1 := h d List.mem_cons_self
    have h2 := dptL_of fun x hx => h x (List.mem_cons_of_mem _ hx)
    simp only [dptL]; omega
theorem dOk_int {n : Nat} {i : Int} : dOk n (.int i) := ⟨rfl, Nat.zero_le _⟩
theorem dOk_non {n : Nat} : dOk n .non := ⟨rfl, Nat.zero_le _⟩
theorem dOk_bl {n : Nat} {b : Bool} : dOk n (.bl b) := ⟨rfl, Nat.zero_le _⟩
theorem dOk_str {n : Nat} {s : List Nat} (h : s.all (· < 0x110000) = true) : dOk n (.str s) := ⟨h, Nat.zero_le _⟩
theorem dOk_tup {n : Nat} {ds : List D} (h : ∀ d ∈ ds, dOk n d) : dOk (n + 1) (.tup ds) := ⟨by simp only [eqD]; exact eqDL_of fun d hd => (h d hd).1, by simp only [dpt]; have := dptL_of fun d hd => (h d hd).2; omega⟩
theorem dOk_lst {n : Nat} {ds : List D} (h : ∀ d ∈ ds, dOk n d) : dOk (n + 1) (.lst ds) := ⟨by simp only [eqD]; exact eqDL_of fun d hd => (h d hd).1, by simp only [dpt]; have := dptL_of fun d hd => (h d hd).2; omega⟩
theorem dOk_mono {n m : Nat} {d : D} (h : dOk n d) (l : n ≤ m) : dOk m d := ⟨h.1, Nat.le_trans h.2 l⟩
theorem eqOk_of {d : D} {n : Nat} (h : dOk n d) (l : n ≤ 64) : eqOk d = true := by
  unfold eqOk
  rw [h.1, decide_eq_true (Nat.le_trans h.2 l)]; rfl
theorem dOk_ints {n : Nat} {ns : List Int} : ∀ d ∈ ns.map D.int, dOk n d := fun d hd => by
  obtain ⟨i, _, rfl⟩ := List.mem_map.mp hd
  exact dOk_int
mutual
theorem deq_refl : ∀ d : D, eqD d = true → deq d d = true
  | .non, _ => by simp [deq]
  | .bl b, _ => by simp [deq]
  | .int i, _ => by simp [deq]
  | .str s, _ => by simp [deq]
  | .tup ds, h => by simp only [deq]; simp only [eqD] at h; exact deqL_refl ds h
  | .lst ds, h => by simp only [deq]; simp only [eqD] at h; exact deqL_refl ds h
  | .ref _, h => by simp [eqD] at h
  | .scr _, h => by simp [eqD] at h
  | .exn .., h => by simp [eqD] at h
  | .clo .., h => by simp [eqD] at h
theorem deqL_refl : ∀ ds : List D, eqDL ds = true → deqL ds ds = true
  | [], _ => by simp [deqL]
  | d :: r, h => by
    simp only [eqDL, Bool.and_eq_true] at h
    simp [deqL, deq_refl d h.1, deqL_refl r h.2]
end
mutual
/-- no truths -/
def noBl : D → Bool
  | .bl _ => false
  | .tup ds => noBlL ds
  | .lst ds => noBlL ds
  | _ => true
def noBlL : List D → Bool
  | [] => true
  | d :: r => noBl d && noBlL r
end
mutual
theorem deq_eq : ∀ d e : D, noBl d = true → noBl e = true → deq d e = true → d = e
  | .non, e, _, h, g => by cases e <;> simp [deq] at g; rfl
  | .bl b, e, h, _, g => by simp [noBl] at h
  | .int i, e, _, h, g => by cases e <;> simp [deq, noBl] at g h <;> simp_all
  | .str s, e, _, h, g => by cases e <;> simp [deq] at g <;> simp_all
  | .tup ds, e, h1, h, g => by
    cases e <;> simp only [deq] at g <;> try cases g
    simp only [noBl] at h h1
    rw [deqL_eq _ _ h1 h g]
  | .lst ds, e, h1, h, g => by
    cases e <;> simp only [deq] at g <;> try cases g
    simp only [noBl] at h h1
    rw [deqL_eq _ _ h1 h g]
  | .ref _, e, _, h, g => by cases e <;> simp [deq] at g
  | .scr _, e, _, h, g => by cases e <;> simp [deq] at g
  | .exn .., e, _, h, g => by cases e <;> simp [deq] at g
  | .clo .., e, _, h, g => by cases e <;> simp [deq] at g
theorem deqL_eq : ∀ ds es : List D, noBlL ds = true → noBlL es = true → deqL ds es = true → ds = es
  | [], es, _, h, g => by cases es <;> simp [deqL] at g; rfl
  | d :: r, es, h1, h, g => by
    cases es with
    | nil => simp [deqL] at g
    | cons e es =>
      simp only [noBlL, Bool.and_eq_true] at h h1
      simp only [deqL, Bool.and_eq_true] at g
      rw [deq_eq d e h1.1 h.1 g.1, deqL_eq r es h1.2 h.2 g.2]
end
theorem deq_iff {d e : D} (h : noBl d = true) (g : noBl e = true) (hd : eqD d = true) : deq d e = true ↔ d = e := ⟨deq_eq d e h g, fun z => z ▸ deq_refl d hd⟩
/-! cells that stay -/
def Grow (ω ω' : Om) : Prop := ∀ a, ω a ≠ none → ω' a = ω a
theorem Grow.refl (ω : Om) : Grow ω ω := fun _ _ => rfl
theorem Grow.trans {a b c : Om} (h : Grow a b) (g : Grow b c) : Grow a c := fun x hx => by rw [g x (by rw [h x hx]; exact hx), h x hx]
theorem Grow.set {ω : Om} {a : Addr} {c : Cell} (h : ω a = none) : Grow ω (ω.set a c) := fun x hx => Om.set_ne (fun e => hx (by rw [e]; exact h))
/-- .. of ω, when a new cell of ω' is written -/
theorem Grow.put {ω ω' : Om} {a : Addr} {c : Cell} (g : Grow ω ω') (h : ω a = none) : Grow ω (ω'.set a c) := fun x hx => by rw [Om.set_ne (fun e => hx (by rw [e]; exact h))]; exact g x hx
theorem Grow.del {ω ω' : Om} {a : Addr} (g : Grow ω ω') (h : ω a = none) : Grow ω (ω'.del a) := fun x hx => by
  show (if x = a then none else ω' x) = ω x
  rw [if_neg (fun e => hx (by rw [e]; exact h))]; exact g x hx
theorem Grow.at {ω ω' : Om} {a : Addr} {c : Cell} (g : Grow ω ω') (h : ω a = some c) : ω' a = some c := by rw [g a (by rw [h]; simp)]; exact h
theorem Grow.free {ω ω' : Om} {a : Addr} (g : Grow ω ω') (h : ω' a = none) : ω a = none := by
  cases e : ω a with
  | none => rfl
  | some c => rw [g.at e] at h; cases h
/-- f'{i}' and str(i) -/
theorem strI_free {i : Int} {s : Nat} (h0 : 0 ≤ i) (h : s < 48 ∨ 57 < s) : s ∉ strI i := by
  rw [strI_nn h0]; exact TL.numL_free h
theorem strI_lenB {i : Int} {k : Nat} (hk : 0 < k) (h0 : 0 ≤ i) (h : i < ((10 ^ k : Nat) : Int)) : (strI i).length ≤ k := by
  rw [strI_nn h0]
  exact TL.numL_len hk (by omega)
theorem strI_lt {i : Int} (h0 : 0 ≤ i) (h : i ≤ 9999999999) : (strI i).length ≤ 10 := strI_lenB (by omega) h0 (by show i < ((10 ^ 10 : Nat) : Int); omega)
theorem strI_head {i : Int} (h0 : 0 ≤ i) : (strI i).head? ≠ some 43 ∧ (strI i).head? ≠ some 45 := by
  constructor <;> intro e
  · exact strI_free (s := 43) h0 (by omega) (List.mem_of_head? e)
  · exact strI_free (s := 45) h0 (by omega) (List.mem_of_head? e)
theorem logI_ok {i : Int} (h0 : 0 ≤ i) (h : i ≤ 9999999999) : i.natAbs.log2 < 1920 := by
  have : i.natAbs < 2 ^ 40 := by omega
  by_cases c : i.natAbs = 0
  · rw [c]; decide
  · have := (Nat.log2_lt (n := i.natAbs) (k := 40) c).mpr ‹_›
    omega
theorem at_map {α : Type} {f : α → D} {L : List α} {p : Nat} {x : α} (h : L[p]? = some x) : atI (L.map f) (p : Nat) = some (f x) := by
  rw [atI_map, atI_nn (by omega), Int.toNat_natCast, h]; rfl
theorem opt_pick {α : Type} {l : List α} {i : Int} {F : α → Prop} (h0 : 0 ≤ i) (h1 : i < (l.length : Nat)) (h : ∀ x ∈ l, F x) : optW (atI l i) F := by
  obtain ⟨k, rfl⟩ := Int.eq_ofNat_of_zero_le h0
  have hk : k < l.length := by omega
  rw [atI_nn (by omega), Int.toNat_natCast, List.getElem?_eq_getElem hk]
  exact h _ (List.getElem_mem hk)
/-- .. by a rest -/
theorem opt_rest {α : Type} {l : List α} {x m : Int} {F : α → Prop} (hm : 0 < m) (h1 : m ≤ (l.length : Nat)) (h : ∀ x ∈ l, F x) : optW (atI l (x % m)) F := opt_pick (Int.emod_nonneg _ (by omega)) (by have := Int.emod_lt_of_pos x hm; omega) h
theorem ins_perm {α : Type} (m : α) (a : List α) (k : Nat) : (a.take k ++ [m] ++ a.drop k).Perm (m :: a) := by
  rw [List.append_assoc]
  have h : (a.take k ++ ([m] ++ a.drop k)).Perm ([m] ++ a.drop k ++ a.take k) := List.perm_append_comm
  refine h.trans ?_
  show (m :: (a.drop k ++ a.take k)).Perm (m :: a)
  refine List.Perm.cons _ (List.perm_append_comm.trans ?_)
  rw [List.take_append_drop]
theorem any_eqF {m : Int} : ∀ {us : List Int}, ((us.map D.int).any fun e => eqF e (.int m)) = decide (m ∈ us)
  | [] => by simp
  | u :: r => by
    rw [List.map_cons, List.any_cons, any_eqF (us := r)]
    have e : eqF (.int u) (.int m) = (u == m) := rfl
    rw [e, Bool.eq_iff_iff, Bool.or_eq_true, beq_iff_eq, decide_eq_true_iff, decide_eq_true_iff, List.mem_cons]
    constructor
    · rintro (h | h)
      · exact .inl h.symm
      · exact .inr h
    · rintro (h | h)
      · exact .inl h.symm
      · exact .inr h
section
variable {K : Fg} {ω : Om} {Φ : D → Om → Prop}
theorem flat_ints (us : List Int) : (us.map D.int).all flatD = true := by rw [List.all_map]; exact List.all_eq_true.mpr fun _ _ => rfl
theorem x_ninR {m : Int} {a : Addr} {us : List Int} (h : ω a = some (.lst (us.map .int))) : (oIn true : O2 K).w (.int m) (.ref a) ω Φ = Φ (.bl (!decide (m ∈ us))) ω := by
  refine propext ⟨?_, fun z => ⟨_, lstOf_ref.mpr h, rfl, flat_ints us, by rw [any_eqF]; exact z⟩⟩
  rintro ⟨ds, e, _, _, z⟩
  rw [lstOf_ref.mpr h] at e; cases e
  rw [any_eqF] at z; exact z
theorem x_inR {m : Int} {a : Addr} {us : List Int} (h : ω a = some (.lst (us.map .int))) : (oIn false : O2 K).w (.int m) (.ref a) ω Φ = Φ (.bl (decide (m ∈ us))) ω := by
  refine propext ⟨?_, fun z => ⟨_, lstOf_ref.mpr h, rfl, flat_ints us, by rw [any_eqF]; exact z⟩⟩
  rintro ⟨ds, e, _, _, z⟩
  rw [lstOf_ref.mpr h] at e; cases e
  rw [any_eqF] at z; exact z
end
/-! == of a list that may change -/
theorem mapM_py {n : Nat} {ω : Om} : ∀ {ds : List D}, eqDL ds = true → ds.mapM (pyF (n + 1) ω) = some (toPyL ds)
  | [], _ => by simp [toPyL]
  | d :: r, h => by
    simp only [eqDL, Bool.and_eq_true] at h
    have e1 : pyF (n + 1) ω d = some (toPy d) := toPy_w _ d h.1
    have e2 := mapM_py (n := n) (ω := ω) h.2
    rw [List.mapM_cons, e1, e2]
    simp [toPyL]
theorem eqDW_ref {ω : Om} {a : Addr} {ds : List D} {e : D} {neg : Bool} {Φ : D → Om → Prop} (h : ω a = some (.lst ds)) (g : eqOk (.lst ds) = true) (ge : eqOk e = true) : eqDW neg (.ref a) e ω Φ = Φ (.bl (if neg then !deq (.lst ds) e else deq (.lst ds) e)) ω := by
  obtain ⟨b1, b2⟩ := eqOk_py ge ω
  obtain ⟨_, a2⟩ := eqOk_py g ω
  have g1 := g; have h1 := ge
  unfold eqOk at g1 h1
  rw [Bool.and_eq_true] at g1 h1
  have e1 := toPy_e _ e g1.1 h1.1
  have a1 : pyF 3 ω (.ref a) = some (toPy (.lst ds)) := by
    show (match ω a with | some (.lst ds) => (ds.mapM (pyF 2 ω)).map PyData.list | _ => none) = _
    rw [h]
    have := g1.1
    simp only [eqD] at this
    show (ds.mapM (pyF 2 ω)).map PyData.list = _
    rw [mapM_py this]
    simp [toPy]
  refine propext ⟨?_, fun z => ⟨_, _, a1, b1, a2, b2, by rw [e1]; exact z⟩⟩
  rintro ⟨p, q, c1, c2, _, _, z⟩
  rw [a1] at c1; rw [b1] at c2; cases c1; cases c2
  rw [e1] at z; exact z
section
variable {K : Fg} {ω : Om} {Φ : D → Om → Prop}
theorem x_eqRL {a : Addr} {ds : List D} {e : D} (h : ω a = some (.lst ds)) (g : eqOk (.lst ds) = true) (ge : eqOk e = true) : (oEq : O2 K).w (.ref a) e ω Φ = Φ (.bl (deq (.lst ds) e)) ω := by
  have := eqDW_ref (neg := false) (Φ := Φ) h g ge
  rw [if_neg Bool.false_ne_true] at this
  rw [← this]
  cases e <;> rfl
theorem x_neRL {a : Addr} {ds : List D} {e : D} (h : ω a = some (.lst ds)) (g : eqOk (.lst ds) = true) (ge : eqOk e = true) : (oNe : O2 K).w (.ref a) e ω Φ = Φ (.bl (!deq (.lst ds) e)) ω := by
  have := eqDW_ref (neg := true) (Φ := Φ) h g ge
  rw [if_pos rfl] at this
  rw [← this]
  cases e <;> rfl
end
/-! data with lists that may change in it, and what they are -/
mutual
inductive Rs (ω : Om) : Nat → D → D → Prop
  | base {n : Nat} {d : D} : eqD d = true → Rs ω n d d
  | ref {n : Nat} {a : Addr} {ds es : List D} : ω a = some (.lst ds) → RsL ω n ds es → Rs ω (n + 1) (.ref a) (.lst es)
  | tup {n : Nat} {ds es : List D} : RsL ω n ds es → Rs ω n (.tup ds) (.tup es)
  | lst {n : Nat} {ds es : List D} : RsL ω n ds es → Rs ω n (.lst ds) (.lst es)
inductive RsL (ω : Om) : Nat → List D → List D → Prop
  | nil {n : Nat} : RsL ω n [] []
  | cons {n : Nat} {d e : D} {ds es : List D} : Rs ω n d e → RsL ω n ds es → RsL ω n (d :: ds) (e :: es)
end
theorem pyF_eq (n : Nat) (ω : Om) : ∃ g, pyF n ω = pyW g := by cases n <;> exact ⟨_, rfl⟩
theorem mapM_pyW (g : Addr → Option PyData) : ∀ ds : List D, ds.mapM (pyW g) = pyWL g ds
  | [] => by simp [pyWL]
  | d :: r => by
    rw [List.mapM_cons, mapM_pyW g r]
    simp only [pyWL]
    cases pyW g d <;> cases pyWL g r <;> rfl
mutual
theorem rs_py {ω : Om} : ∀ {n : Nat} {d e : D}, Rs ω n d e → pyF n ω d = some (toPy e) ∧ eqD e = true
  | n, _, _, .base h => by
    obtain ⟨g, hg⟩ := pyF_eq n ω
    rw [hg]
    exact ⟨toPy_w g _ h, h⟩
  | _, _, _, .ref (n := n) (a := a) (ds := ds) (es := es) h r => by
    obtain ⟨h1, h2⟩ := rsL_py r
    refine ⟨?_, by simp only [eqD]; exact h2⟩
    show (match ω a with | some (.lst ds) => (ds.mapM (pyF n ω)).map PyData.list | _ => none) = _
    rw [h]
    show (ds.mapM (pyF n ω)).map PyData.list = _
    obtain ⟨g, hg⟩ := pyF_eq n ω
    rw [hg, mapM_pyW, h1 g hg]
    simp [toPy]
  | n, _, _, .tup (ds := ds) (es := es) r => by
    obtain ⟨h1, h2⟩ := rsL_py r
    obtain ⟨g, hg⟩ := pyF_eq n ω
    refine ⟨?_, by simp only [eqD]; exact h2⟩
    rw [hg]
    simp only [pyW, h1 g hg, toPy, Option.map_some]
  | n, _, _, .lst (ds := ds) (es := es) r => by
    obtain ⟨h1, h2⟩ := rsL_py r
    obtain ⟨g, hg⟩ := pyF_eq n ω
    refine ⟨?_, by simp only [eqD]; exact h2⟩
    rw [hg]
    simp only [pyW, h1 g hg, toPy, Option.map_some]
theorem rsL_py {ω : Om} : ∀ {n : Nat} {ds es : List D}, RsL ω n ds es → (∀ g, pyF n ω = pyW g → pyWL g ds = some (toPyL es)) ∧ eqDL es = true
  | n, _, _, .nil => ⟨fun g _ => by simp [pyWL, toPyL], by simp [eqDL]⟩
  | n, _, _, .cons (d := d) (e := e) (ds := ds) (es := es) h r => by
    obtain ⟨h1, h2⟩ := rs_py h
    obtain ⟨h3, h4⟩ := rsL_py r
    refine ⟨fun g hg => ?_, by simp only [eqDL, h2, h4]; rfl⟩
    rw [hg] at h1
    simp only [pyWL, h1, h3 g hg, toPyL]
end
theorem eqDW_Rs {ω : Om} {d e d' e' : D} {neg : Bool} {Φ : D → Om → Prop} (h : Rs ω 3 d d') (g : Rs ω 3 e e') (hd : dpt d' ≤ 64) (ge : dpt e' ≤ 64) : eqDW neg d e ω Φ = Φ (.bl (if neg then !deq d' e' else deq d' e')) ω := by
  obtain ⟨a1, a2⟩ := rs_py h
  obtain ⟨b1, b2⟩ := rs_py g
  have e1 := toPy_e _ _ a2 b2
  have o1 : eqOk d' = true := by unfold eqOk; rw [a2, decide_eq_true hd]; rfl
  have o2 : eqOk e' = true := by unfold eqOk; rw [b2, decide_eq_true ge]; rfl
  have s1 := (eqOk_py o1 ω).2
  have s2 := (eqOk_py o2 ω).2
  refine propext ⟨?_, fun z => ⟨_, _, a1, b1, s1, s2, by rw [e1]; exact z⟩⟩
  rintro ⟨p, q, c1, c2, _, _, z⟩
  rw [a1] at c1; rw [b1] at c2; cases c1; cases c2
  rw [e1] at z; exact z
/-! x in l, of data -/
section
variable {K : Fg} {ω : Om} {Φ : D → Om → Prop}
def inDW (neg : Bool) (x y : D) (ω : Om) (Φ : D → Om → Prop) : Prop := ∃ p ps, pyF 3 ω x = some p ∧ pyF 3 ω y = some (.list ps) ∧ SeqAt.shaped p = true ∧ SeqAt.shaped (.list ps) = true ∧ Φ (.bl (if neg then !(ps.any fun z => PyData.eqv z p) else ps.any fun z => PyData.eqv z p)) ω
def oInD : O2 K where
  r := rInD K
  w := inDW false
  ok := fun z x y d e Q Φ h k r1 r2 q => by
    obtain ⟨p, p', h1, h2, h3, h4, h5⟩ := h
    exact ⟨p, p', pyF_ok k _ _ _ _ r1 h1, pyF_ok k _ _ _ _ r2 h2, h3, h4, q _ z _ k.to (.bl _) h5⟩
def oNinD : O2 K where
  r := rNotInD K
  w := inDW true
  ok := fun z x y d e Q Φ h k r1 r2 q => by
    obtain ⟨p, p', h1, h2, h3, h4, h5⟩ := h
    exact ⟨p, p', pyF_ok k _ _ _ _ r1 h1, pyF_ok k _ _ _ _ r2 h2, h3, h4, q _ z _ k.to (.bl _) h5⟩
theorem hu65 {A : Around} {k : Nat} (hr : Room k A) : A.units + 65 < cLine := by have := hr.un; omega
theorem op_oInD {X : Cx} (hu : X.A.units + 65 < cLine) : OpR X (compareOp .In) (oInD (K := X.K)).r := op_inD hu
theorem op_oNinD {X : Cx} (hu : X.A.units + 65 < cLine) : OpR X (compareOp .NotIn) (oNinD (K := X.K)).r := op_notInD hu
theorem any_py {x : D} (hx : eqD x = true) : ∀ {es : List D}, eqDL es = true → ((toPyL es).any fun z => PyData.eqv z (toPy x)) = es.any fun e => deq e x
  | [], _ => by simp [toPyL]
  | e :: r, h => by
    simp only [eqDL, Bool.and_eq_true] at h
    simp only [toPyL, List.any_cons]
    rw [toPy_e e x h.1 hx, any_py hx h.2]
theorem inDW_Rs {neg : Bool} {x y x' : D} {es : List D} (h : Rs ω 3 x x') (g : Rs ω 3 y (.lst es)) (hd : dpt x' ≤ 64) (ge : dpt (.lst es) ≤ 64) : inDW neg x y ω Φ = Φ (.bl (if neg then !(es.any fun e => deq e x') else es.any fun e => deq e x')) ω := by
  obtain ⟨a1, a2⟩ := rs_py h
  obtain ⟨b1, b2⟩ := rs_py g
  have o1 : eqOk x' = true := by unfold eqOk; rw [a2, decide_eq_true hd]; rfl
  have o2 : eqOk (.lst es) = true := by unfold eqOk; rw [b2, decide_eq_true ge]; rfl
  have s1 := (eqOk_py o1 ω).2
  have s2 := (eqOk_py o2 ω).2
  simp only [toPy] at b1 s2
  simp only [eqD] at b2
  have e1 := any_py a2 b2
  refine propext ⟨?_, fun z => ⟨_, _, a1, b1, s1, s2, by rw [e1]; exact z⟩⟩
  rintro ⟨p, q, c1, c2, _, _, z⟩
  rw [a1] at c1; rw [b1] at c2; cases c1; cases c2
  rw [e1] at z; exact z
end
/-! o[i] = v, of a list that may change -/
section
variable {K : Fg}
def bgSub (a b : BE K) : BG K where
  t := gSub (a.t W0) (b.t W0) rSetL
  w := fun d ρ ω Φ => a.w ρ ω (fun x ω1 => b.w ρ ω1 (fun y ω2 => match x, y with
    | .ref p, .int i => cL (ω2 p) fun ds => optW (ixN ds.length i) fun j => Φ ρ (ω2.set p (.lst (ds.set j d)))
    | _, _ => False) X0) X0
  ok := fun d v ρ z σ Q Φ h k r hv q => by
    refine a.ok W0 ρ z σ _ _ X0 h k r (fun x z1 d1 t1 r1 h1 => ?_) fun _ _ _ _ _ _ w => w.elim
    refine b.ok W0 ρ z1 σ _ _ X0 h1 t1.ok (r.mono t1.ex) (fun y z2 d2 t2 r2 h2 => ?_) fun _ _ _ _ _ _ w => w.elim
    split at h2
    · cases r1; cases r2
      obtain ⟨ds, hc, h2⟩ := cL_iff.mp h2
      obtain ⟨j, hj, h3⟩ := optW_iff.mp h2
      obtain ⟨_, xs, g1, g2⟩ := t2.ok.cell _ _ hc
      have t12 := t1.trans t2
      have t := t2.ok.put (o := .lst (xs.set j v)) (c' := .lst (ds.set j d)) hc ⟨_, upd_same, g2.set (hv.mono t12.ex) j⟩
      exact ⟨_, xs, _, j, rfl, rfl, g1, by rw [g2.length]; exact hj, q _ _ _ (t12.trans t) (r.mono (t12.trans t).ex) h3⟩
    · exact h2.elim
def gsW (x y d : D) (ρ : En) (ω : Om) (Φ : En → Om → Prop) : Prop := match x, y with
  | .ref p, .int i => cL (ω p) fun ds => optW (ixN ds.length i) fun j => Φ ρ (ω.set p (.lst (ds.set j d)))
  | _, _ => False
theorem x_gSub {A B : BE K} {d : D} {ρ : En} {ω : Om} {F : En → Om → Prop} : (bgSub A B).w d ρ ω F = A.w ρ ω (fun x ω1 => B.w ρ ω1 (fun y ω2 => gsW x y d ρ ω2 F) X0) X0 := rfl
theorem x_gsW {p : Addr} {i : Int} {d : D} {ρ : En} {ω : Om} {F : En → Om → Prop} : gsW (.ref p) (.int i) d ρ ω F = cL (ω p) fun ds => optW (ixN ds.length i) fun j => F ρ (ω.set p (.lst (ds.set j d))) := rfl
end
section
variable {X : Cx} {a b : Expr} {A B : BE X.K} {pos : Pos}
theorem G_sub (ha : PE X a (A.t W0)) (hb : PE X b (B.t W0))
    (hs : ∀ v, assign (.Subscript a b pos) X.env v = (do
      let ov ← holding [v] (eval a X.env)
      let iv ← holding [v, ov] (eval b X.env)
      standAt pos
      holding [v, ov, iv] (setItem ov iv v)
      release [v, ov, iv] []) := by intro _; rfl) : PG X (.Subscript a b pos) (bgSub A B).t := pg_sub ha hb set_list hs
end
theorem ixN_nat {n i : Nat} (h : i < n) : ixN n ((i : Nat) : Int) = some i := by
  unfold ixN
  simp
  omega
end T

/-! A run has one end: what is shown of it piece by piece holds together. -/
namespace T
open PySem
theorem Runs.one {M : Model} {Γ : Ctx} {p : Pos} {t : Sem Fin} {fs : List Frame} {s s' : Shared} {e : End} (h : Runs M Γ p t fs s e s') : ∀ {e2 : End} {s2 : Shared}, Runs M Γ p t fs s e2 s2 → e = e2 ∧ s' = s2 := by
  induction h with
  | done => intro e2 s2 g; cases g; exact ⟨rfl, rfl⟩
  | raise => intro e2 s2 g; cases g; exact ⟨rfl, rfl⟩
  | again q _ ih => intro e2 s2 g; cases g with | again _ g => exact ih g
  | rule _ ih => intro e2 s2 g; cases g with | rule g => exact ih g
  | «at» _ ih => intro e2 s2 g; cases g with | «at» g => exact ih g
  | load h1 _ ih => intro e2 s2 g; cases g with | load h2 g => rw [h1] at h2; cases h2; exact ih g
  | update _ _ ih => intro e2 s2 g; cases g with | update _ g => exact ih g
  | loadIfAlive _ ih => intro e2 s2 g; cases g with | loadIfAlive g => exact ih g
  | point _ ih => intro e2 s2 g; cases g with | point g => exact ih g
  | alloc _ ih => intro e2 s2 g; cases g with | alloc g => exact ih g
  | fresh _ ih => intro e2 s2 g; cases g with | fresh g => exact ih g
  | ask _ ih => intro e2 s2 g; cases g with | ask g => exact ih g
  | choose _ _ ih => intro e2 s2 g; cases g with | choose _ g => exact ih g
  | os _ ih => intro e2 s2 g; cases g with | os g => exact ih g
  | handled _ ih => intro e2 s2 g; cases g with | handled g => exact ih g
  | genState h1 _ ih => intro e2 s2 g; cases g with | genState h2 g => rw [h1] at h2; cases h2; exact ih g
  | stack _ ih => intro e2 s2 g; cases g with | stack g => exact ih g
  | thread _ ih => intro e2 s2 g; cases g with | thread g => exact ih g
  | newGen _ ih => intro e2 s2 g; cases g with | newGen g => exact ih g
  | call _ _ i1 i2 =>
    intro e2 s2 g
    cases g with
    | call g1 g2 => obtain ⟨a, b⟩ := i1 g1; cases a; subst b; exact i2 g2
    | callSusp g1 => obtain ⟨a, _⟩ := i1 g1; cases a
  | callSusp _ i1 =>
    intro e2 s2 g
    cases g with
    | call g1 g2 => obtain ⟨a, _⟩ := i1 g1; cases a
    | callSusp g1 => obtain ⟨a, b⟩ := i1 g1; cases a; exact ⟨rfl, b⟩
  | yield => intro e2 s2 g; cases g; exact ⟨rfl, rfl⟩
  | resumeFresh h1 _ _ _ i1 i2 =>
    intro e2 s2 g
    cases g with
    | resumeFresh h2 g1 _ g2 => rw [h1] at h2; cases h2; obtain ⟨a, b⟩ := i1 g1; subst a; subst b; exact i2 g2
    | resumeSuspended h2 => rw [h1] at h2; cases h2
    | resumeJustStarted _ n => exact absurd rfl n
    | resumeRunning h2 => rw [h1] at h2; cases h2
    | resumeFinished h2 => rw [h1] at h2; cases h2
  | resumeSuspended h1 _ _ _ i1 i2 =>
    intro e2 s2 g
    cases g with
    | resumeFresh h2 => rw [h1] at h2; cases h2
    | resumeSuspended h2 g1 _ g2 => rw [h1] at h2; cases h2; obtain ⟨a, b⟩ := i1 g1; subst a; subst b; exact i2 g2
    | resumeJustStarted h2 => rw [h1] at h2; cases h2
    | resumeThrowFresh h2 => rw [h1] at h2; cases h2
    | resumeRunning h2 => rw [h1] at h2; cases h2
    | resumeFinished h2 => rw [h1] at h2; cases h2
  | resumeJustStarted h1 n _ ih =>
    intro e2 s2 g
    cases g with
    | resumeFresh => exact absurd rfl n
    | resumeSuspended h2 => rw [h1] at h2; cases h2
    | resumeJustStarted _ _ g => exact ih g
    | resumeRunning h2 => rw [h1] at h2; cases h2
    | resumeFinished h2 => rw [h1] at h2; cases h2
  | resumeThrowFresh h1 _ ih =>
    intro e2 s2 g
    cases g with
    | resumeSuspended h2 => rw [h1] at h2; cases h2
    | resumeThrowFresh _ g => exact ih g
    | resumeRunning h2 => rw [h1] at h2; cases h2
    | resumeFinished h2 => rw [h1] at h2; cases h2
  | resumeRunning h1 _ ih =>
    intro e2 s2 g
    cases g with
    | resumeRunning _ g => exact ih g
    | resumeFresh h2 => rw [h1] at h2; cases h2
    | resumeSuspended h2 => rw [h1] at h2; cases h2
    | resumeJustStarted h2 => rw [h1] at h2; cases h2
    | resumeThrowFresh h2 => rw [h1] at h2; cases h2
    | resumeFinished h2 => rw [h1] at h2; cases h2
  | resumeFinished h1 _ ih =>
    intro e2 s2 g
    cases g with
    | resumeFinished _ g => exact ih g
    | resumeFresh h2 => rw [h1] at h2; cases h2
    | resumeSuspended h2 => rw [h1] at h2; cases h2
    | resumeJustStarted h2 => rw [h1] at h2; cases h2
    | resumeThrowFresh h2 => rw [h1] at h2; cases h2
    | resumeRunning h2 => rw [h1] at h2; cases h2
  | segRet _ _ i1 i2 =>
    intro e2 s2 g
    cases g with
    | segRet g1 g2 => obtain ⟨a, b⟩ := i1 g1; cases a; subst b; exact i2 g2
    | segSuspOut _ g1 => obtain ⟨a, _⟩ := i1 g1; cases a
    | segSuspGen _ g1 => obtain ⟨a, _⟩ := i1 g1; cases a
  | segGen _ _ i1 i2 =>
    intro e2 s2 g
    cases g with
    | segGen g1 g2 => obtain ⟨a, b⟩ := i1 g1; cases a; subst b; exact i2 g2
    | segSuspOut _ g1 => obtain ⟨a, _⟩ := i1 g1; cases a
    | segSuspGen _ g1 => obtain ⟨a, _⟩ := i1 g1; cases a
  | segSuspOut h1 _ i1 =>
    intro e2 s2 g
    cases g with
    | segRet g1 => obtain ⟨a, _⟩ := i1 g1; cases a
    | segGen g1 => obtain ⟨a, _⟩ := i1 g1; cases a
    | segSuspOut _ g1 => obtain ⟨a, b⟩ := i1 g1; cases a; exact ⟨rfl, b⟩
    | segSuspGen h2 => rw [h1] at h2; cases h2
  | segSuspGen h1 _ _ _ i1 i2 =>
    intro e2 s2 g
    cases g with
    | segRet g1 => obtain ⟨a, _⟩ := i1 g1; cases a
    | segGen g1 => obtain ⟨a, _⟩ := i1 g1; cases a
    | segSuspOut h2 => rw [h1] at h2; cases h2
    | segSuspGen h2 g1 _ g2 => rw [h1] at h2; cases h2; obtain ⟨a, b⟩ := i1 g1; cases a; subst b; exact i2 g2
theorem Wakes.one {M : Model} {Γ : Ctx} {p : Pos} {g : Nat} {r : Resume} {s s1 s2 : Shared} {a b : GenResult} (h : Wakes M Γ p g r s a s1) (k : Wakes M Γ p g r s b s2) : a = b ∧ s1 = s2 := by
  unfold Wakes at h k
  have woke : ∀ {c : Ctx} {q : Pos} {u : Sem Fin} {fs : List Frame}, (∃ e1 t1, Runs M c q u fs (s.setGen g .running) e1 t1 ∧ e1.quiet = true ∧ a = e1.result ∧ s1 = t1.setGen g e1.genState) →
      (∃ e1 t1, Runs M c q u fs (s.setGen g .running) e1 t1 ∧ e1.quiet = true ∧ b = e1.result ∧ s2 = t1.setGen g e1.genState) → a = b ∧ s1 = s2 := by
    rintro c q u fs ⟨e1, t1, h1, _, rfl, rfl⟩ ⟨e2, t2, h2, _, rfl, rfl⟩
    obtain ⟨x, y⟩ := Runs.one h1 h2
    subst x; subst y; exact ⟨rfl, rfl⟩
  have said : ∀ {r : GenResult} {t : Shared}, (a = r ∧ s1 = t) → (b = r ∧ s2 = t) → a = b ∧ s1 = s2 := by
    rintro r t ⟨rfl, rfl⟩ ⟨rfl, rfl⟩
    exact ⟨rfl, rfl⟩
  cases e : s.gens[g]? with
  | none => rw [e] at h; exact h.elim
  | some x =>
    rw [e] at h k
    cases x with
    | fresh c =>
      cases r with
      | send v => cases v <;> first | exact said h k | exact woke h k
      | throw x => exact said h k
    | suspended => exact woke h k
    | running => exact said h k
    | finished => exact said h k
theorem wp_both {α ι : Type} (i0 : ι) (M : Model) (Γ : Ctx) (t : Sem α) : ∀ (Q : ι → α → Pos → Shared → Prop) (E : ι → Value → Pos → Shared → Prop) (p : Pos) (s : Shared), (∀ i, Sem.wp M Γ t (Q i) (E i) p s) →
    Sem.wp M Γ t (fun a p' s' => ∀ i, Q i a p' s') (fun e p' s' => ∀ i, E i e p' s') p s := by
  induction t with
  | pure a => intro Q E p s h; exact h
  | raise e => intro Q E p s h; exact h
  | unsupported _ => intro Q E p s h; exact h i0
  | finish _ => intro Q E p s h; exact h i0
  | rule _ k ih => intro Q E p s h; exact ih () Q E p s h
  | «at» p' k ih => intro Q E p s h; exact ih () Q E p' s h
  | load a _ k ih =>
    intro Q E p s h
    obtain ⟨o, ho, _⟩ := h i0
    refine ⟨o, ho, ih o Q E p s fun i => ?_⟩
    obtain ⟨o', ho', h'⟩ := h i
    rw [ho] at ho'; cases ho'; exact h'
  | update a _ f k ih => intro Q E p s h; exact ⟨(h i0).1, ih () Q E p _ fun i => (h i).2⟩
  | loadIfAlive a k ih => intro Q E p s h; exact ih _ Q E p s h
  | point _ k ih => intro Q E p s h; exact ih () Q E p s h
  | register _ _ => intro Q E p s h; exact h i0
  | alloc o k ih => intro Q E p s h; exact ih _ Q E p _ h
  | fresh k ih => intro Q E p s h; exact ih _ Q E p _ h
  | ask k ih => intro Q E p s h; exact ih _ Q E p s h
  | choose src m k ih => intro Q E p s h; exact ⟨(h i0).1, ih _ Q E p _ fun i => (h i).2⟩
  | os q _ k ih => intro Q E p s h; exact ih _ Q E p _ h
  | call c hd _ _ k ih =>
    intro Q E p s h
    obtain ⟨r, s1, hr, _⟩ := h i0
    refine ⟨r, s1, hr, ih r Q E p s1 fun i => ?_⟩
    obtain ⟨r', s1', hr', h'⟩ := h i
    obtain ⟨a, b⟩ := Runs.one hr hr'
    cases a; subst b; exact h'
  | handled own k ih => intro Q E p s h; exact ih _ Q E p s h
  | genState g k ih =>
    intro Q E p s h
    obtain ⟨o, ho, _⟩ := h i0
    refine ⟨o, ho, ih _ Q E p s fun i => ?_⟩
    obtain ⟨o', ho', h'⟩ := h i
    rw [ho] at ho'; cases ho'; exact h'
  | newGen c k ih => intro Q E p s h; exact ih _ Q E p _ h
  | resume g r _ k ih =>
    intro Q E p s h
    obtain ⟨a, s1, hr, _⟩ := h i0
    refine ⟨a, s1, hr, ih a Q E p s1 fun i => ?_⟩
    obtain ⟨a', s1', hr', h'⟩ := h i
    obtain ⟨e1, e2⟩ := Wakes.one hr hr'
    subst e1; subst e2; exact h'
  | yield _ _ _ _ => intro Q E p s h; exact h i0
  | stack k ih => intro Q E p s h; exact ih _ Q E p s h
  | fork _ _ => intro Q E p s h; exact h i0
  | thread k ih => intro Q E p s h; exact ih _ Q E p s h
  | await _ _ _ _ _ => intro Q E p s h; exact h i0
theorem wpAny_both {α ι : Type} (i0 : ι) {M : Model} {A : Around} {t : Sem α} {Q : ι → α → Shared → Prop} {E : ι → Value → Shared → Prop} {s : Shared} (h : ∀ i, wpAny M A t (Q i) (E i) s) :
    wpAny M A t (fun a s' => ∀ i, Q i a s') (fun e s' => ∀ i, E i e s') s := fun Γ p hΓ => wp_both i0 M Γ t _ _ p s fun i => h i Γ p hΓ
end T

/-! Lambdas; max, min, sorted by a key. -/
namespace T
open PySem PySem.Spec PyProof.Rows L2 LamX NdefX
/-! ### the function that a lambda makes -/
/-- the object at f is the lambda of the words F, of the body b -/
def LamO (f : Addr) (F : NF) (b : Expr) : HO := .ext fun h => ∃ (od : Option Addr) (sl : Array (Option Value)) (pm ctv : Value), h.get? f = some (⟨.type "function", od, .func (PySem.W.kla_fn F.name F.qual F.params b F.scope F.cl pm (.ref F.c) ctv), sl⟩ : Obj)
theorem lamO_nt {f : Addr} {F : NF} {b : Expr} : NT (LamO f F b) := fun ps z => by unfold LamO at z; cases z
theorem codeO_nt {c : Addr} {q : Str} : NT (CodeO c q) := fun ps z => by unfold CodeO at z; cases z
theorem lamO_at {P : Program} {w : World} {H : Hp} {h : Heap} {f : Addr} {F : NF} {b : Expr} (hok : HOk P w H h) (e : H f = some (LamO f F b)) :
    ∃ (od : Option Addr) (sl : Array (Option Value)) (pm ctv : Value), h.get? f = some (⟨.type "function", od, .func (PySem.W.kla_fn F.name F.qual F.params b F.scope F.cl pm (.ref F.c) ctv), sl⟩ : Obj) := by
  obtain ⟨z, _, _⟩ := hok f _ e
  exact z
section
variable {X : Cx} {pins : List (Addr × Obj)} {σ : L2.St} {H : Hp} {s : Shared}
theorem inv_lam {F : NF} {b : Expr} {o : Obj} {t' : Nat} {pm ctv : Value} (I : Inv X pins σ H s) (ho : o = { cls := .type "function", data := .func (PySem.W.kla_fn F.name F.qual F.params b F.scope F.cl pm (.ref F.c) ctv) }) :
    Inv X pins σ (upd H s.heap.objs.size (LamO s.heap.objs.size F b)) { s with heap := s.heap.push o, toks := t' } := by
  subst ho
  refine I.laid (a := s.heap.objs.size) (fun b u e => Heap.get?_push_of_some _ e) (Nat.le_refl _) ?_
  have e : (s.heap.push ({ cls := .type "function", data := .func (PySem.W.kla_fn F.name F.qual F.params b F.scope F.cl pm (.ref F.c) ctv) } : Obj)).get? s.heap.objs.size = some ({ cls := .type "function", data := .func (PySem.W.kla_fn F.name F.qual F.params b F.scope F.cl pm (.ref F.c) ctv) } : Obj) := Heap.get?_push_size _ rfl
  exact ⟨⟨_, _, pm, ctv, e⟩, ⟨_, e⟩, fun h1 h2 ⟨od, sl, p, t, z⟩ st => ⟨od, sl, p, t, st _ z⟩⟩
abbrev lamNF (X : Cx) (params : Arguments) (scope : Scope) (c' : Addr) : NF := ⟨"<lambda>", X.env.qual ++ "<lambda>", params, [], scope, cloFrom X.env.cells scope.names [], c'⟩
/-- a table with one triple more still tells its names -/
theorem tabs_more {T : List NTab} {nm : Nat → Nat → Str} {P c' : Addr} {ps : Array Value} {pos : Pos} {q : Str} (hT : TabsN T H) (hP : H P = some (.tbl ps)) (nC : H c' = none) (hm : (P, nm) ∈ T) (hu : ∀ x ∈ T, x.1 = P → x.2 = nm) (hq : nm pos.line pos.col = q) :
    (∀ b o, H b = some o → NT o → upd (upd H P (.tbl (ps ++ #[rawInt pos.line, rawInt pos.col, .ref c']))) c' (CodeO c' q) b = some o) ∧ TabsN T (upd (upd H P (.tbl (ps ++ #[rawInt pos.line, rawInt pos.col, .ref c']))) c' (CodeO c' q)) := by
  have stay : ∀ b o, H b = some o → NT o → upd (upd H P (.tbl (ps ++ #[rawInt pos.line, rawInt pos.col, .ref c']))) c' (CodeO c' q) b = some o := by
    intro b o hb nt
    have b1 : b ≠ c' := ne_of_none hb nC
    have b2 : b ≠ P := by
      rintro rfl
      rw [hP] at hb
      exact nt ps (Option.some.inj hb).symm
    rw [upd_ne b1, upd_ne b2, hb]
  refine ⟨stay, ?_⟩
  rintro ⟨R, rn⟩ hR
  obtain ⟨qs, k1, k2, k3⟩ := hT (R, rn) hR
  have old : ∀ {p' : Pos} {cv : Value}, codeAmong p' qs.toList = some cv → ∃ d, cv = .ref d ∧ upd (upd H P (.tbl (ps ++ #[rawInt pos.line, rawInt pos.col, .ref c']))) c' (CodeO c' q) d = some (CodeO d (rn p'.line p'.col)) := fun {p' cv} e => by
    obtain ⟨d, e1, e2⟩ := k3 p' cv e
    exact ⟨d, e1, stay d _ e2 codeO_nt⟩
  by_cases hRP : R = P
  · subst hRP
    have en : rn = nm := hu _ hR rfl
    subst en
    have eq : qs = ps := by
      have k1 : H R = some (.tbl qs) := k1
      rw [hP] at k1
      cases k1; rfl
    subst eq
    have el : (qs ++ #[rawInt pos.line, rawInt pos.col, .ref c']).toList = qs.toList ++ [rawInt pos.line, rawInt pos.col, .ref c'] := by simp
    refine ⟨_, (upd_ne (ne_of_none hP nC)).trans upd_same, ?_, ?_⟩
    · rw [el]; exact PySem.TriplesOk_snoc _ _ _ _ k2
    · intro p' cv e
      rw [el] at e
      rcases among_app2 _ k2 e with e | ⟨rfl, l1, l2⟩
      · exact old e
      · refine ⟨c', rfl, ?_⟩
        show upd _ c' _ c' = some (CodeO c' (rn p'.line p'.col))
        rw [upd_same, ← l1, ← l2, hq]
  · exact ⟨qs, (upd_ne (ne_of_none k1 nC)).trans ((upd_ne hRP).trans k1), k2, fun p' cv e => old e⟩
/-- the reading of a lambda: a new function -/
def tLamV (T : List NTab) (mk : Addr → NF) (b : Expr) : TE := fun _ H Q => TabsN T H ∧ ∀ (f c' : Addr) (H1 : Hp), (∀ b o, H b = some o → NT o → H1 b = some o) → (∀ b, H b ≠ none → H1 b ≠ none) → TabsN T H1 → H f = none → H1 f = some (LamO f (mk c') b) → H1 c' = some (CodeO c' (mk c').qual) → Q (.ref f) H1
end
theorem pe_lamV {X : Cx} {params : Arguments} {body : Expr} {scope : Scope} {pos : Pos} (lc : LamC X "<lambda>") (hdef : defaultsOf params X.env = ([], [])) (hfree : ∀ y ∈ scope.names, y.2 = .free → X.env.scope.names.lookup y.1 = some .cell ∨ X.env.scope.names.lookup y.1 = some .free) :
    PE X (.Lambda params body scope pos) (tLamV (tabsN X.K) (lamNF X params scope) body) := by
  obtain ⟨c, P, hc, hin, TB, uni⟩ := lc
  refine ⟨fun pins s σ H Q I ⟨hT, h⟩ => PySem.W.kla_eval hdef ?_⟩
  have fr : ∀ y ∈ scope.names, y.2 = .free → ∃ c, X.env.cells.lookup y.1 = some c := fun y hy e => by
    rcases hfree y hy e with z | z
    · exact I.ok.has _ (.inl z)
    · exact I.ok.has _ (.inr z)
  have hin' : (P, fun _ _ => X.env.qual ++ "<lambda>") ∈ tabsN X.K := List.mem_map.mpr ⟨_, hin, rfl⟩
  have uni' : ∀ x ∈ tabsN X.K, x.1 = P → x.2 = fun _ _ => X.env.qual ++ "<lambda>" := fun x hx e => by
    obtain ⟨y, hy, rfl⟩ := List.mem_map.mp hx
    show (fun _ _ => y.2) = _
    rw [uni y hy e]
  obtain ⟨ps, hP, tri, _⟩ := id (hT _ hin')
  have atP := I.hok P _ hP
  have bi := TB.bm.keeps I.bk
  have hd := TB.code.keeps I.bk
  have G := I.mod.glob.keeps I.bk
  -- behind the making of the object, its code object at c'
  have last : ∀ (c' : Addr) (H1 : Hp) (g : Heap) (ctv : Value) (tk : Nat), Inv X pins σ H1 { s with heap := g, toks := tk } → (∀ b o, H b = some o → NT o → H1 b = some o) → (∀ b, H b ≠ none → H1 b ≠ none) → TabsN (tabsN X.K) H1 → H1 c' = some (CodeO c' (X.env.qual ++ "<lambda>")) →
      EP X pins σ Q (.ref g.objs.size) { s with heap := g.push (PySem.W.kla_obj "<lambda>" (X.env.qual ++ "<lambda>") params body scope (cloFrom X.env.cells scope.names []) ((X.mg "__name__").getD .none) c' ctv), toks := tk } := by
    intro c' H1 g ctv tk J k1 k2 k3 k4
    have nf := J.hok.fresh (Nat.le_refl _)
    have nf0 : H g.objs.size = none := by
      cases e : H g.objs.size with
      | none => rfl
      | some o => exact absurd nf (k2 _ (by rw [e]; simp))
    refine ⟨.ref g.objs.size, _, inv_lam (F := lamNF X params scope c') (b := body) (pm := (X.mg "__name__").getD .none) (ctv := ctv) J rfl, rfl, h _ c' _ (fun b o e nt => ?_) (fun b e => ?_) (k3.ext fun b o e => ?_) nf0 upd_same ?_⟩
    · have e1 := k1 b o e nt
      exact (upd_ne (ne_of_none e1 nf)).trans e1
    · exact upd_kept b (k2 b e)
    · exact (upd_ne (ne_of_none e nf)).trans e
    · exact (upd_ne (ne_of_none k4 nf)).trans k4
  cases q : codeAmong pos ps.toList with
  | some cv =>
    obtain ⟨c', rfl, e2⟩ := (show ∃ c', cv = .ref c' ∧ H c' = some (CodeO c' (X.env.qual ++ "<lambda>")) from by
      obtain ⟨ps2, a1, _, a3⟩ := id (hT _ hin')
      rw [hP] at a1; cases a1
      exact a3 pos cv q)
    exact PySem.W.kla_makeFunctionHit (closure_ok fr) I.ok.glob G hc hd atP tri q bi fun ctv g tk old _ => last c' H g ctv tk (I.kept old) (fun _ _ e _ => e) (fun _ e => e) hT e2
  | none =>
    refine PySem.W.kla_makeFunction (closure_ok fr) I.ok.glob G hc hd atP tri q TB.gP bi fun c' ctv g tk old ge lt rec tab => ?_
    obtain ⟨c2, oc, vs, t, e2, r1, r2, r3⟩ := rec
    cases e2
    have nC := I.hok.fresh ge
    obtain ⟨m1, m2⟩ := tabs_more (pos := pos) hT hP nC hin' uni' rfl
    refine last c' _ g ctv tk (inv_table (t' := tk) I hP (fun b o hb e => old b o hb e) tab ge ⟨oc, vs, t, r1, r2, r3⟩) m1 (fun b e => ?_) m2 upd_same
    exact upd_kept b (upd_kept b e)
/-! ### its call -/
section
variable {P : Program} {w : World} {K : PySem.W.Frag} {mg : Str → Option Value} {base : Heap} {N fr : List Str} {p : Str} {F : NF} {b : Expr} {f : Addr} {k : Nat} {A : Around} {outer : List Env} {s : Shared} {H : Hp} {u : Value} {v : V} {ws : List (Option V)} {Q : VK} {tb : TE}
theorem lam_run {E : Value → Shared → Prop} (S : NScope N [p] fr F.scope) (hbind : ∀ (pm ctv u : Value), bindArgs (PySem.W.kla_fn F.name F.qual F.params b F.scope F.cl pm (.ref F.c) ctv) ⟨[u], []⟩ = pure [(p, u)])
    (hr : Room (k + 1) A) (e0 : Env0 P w K mg base A outer s H) (hf : H f = some (LamO f F b)) (hc : H F.c = some (CodeO F.c F.qual)) (C : CellsAt F.cl fr ws s.heap H) (r : RelV v u)
    (hbody : Room k (A.deeper (envF F f s.heap.objs.size)) → PE (ncx CX0 P w K mg base N F f A outer s H (fun _ _ _ => False)) b tb) (h : tb (startF N [v] ws) H Q) :
    wpAny (model P w) A (call (.ref f) [u]) (CE outer P w H s Q) E s := by
  have lim : s.heap.NoLimit := e0.mod.nolimit.keeps fun b o e => (e0.bs b o e).1
  obtain ⟨od, sl, pm, ctv, ho⟩ := lamO_at e0.hok hf
  have rc : codeAny (model P w) A (.call (.ref f) ⟨[u], []⟩) (CR CX0 outer P w H s Q (fun _ _ _ => False)) s := by
    refine PySem.W.kla_callFunE hr.depth ho rfl S.co S.gen rfl (codeO_at e0.hok hc) ?_
    rw [hbind]
    refine wpAny_pure (wpAny_newFunctionEnv S.nocell (fun y hy => by rw [List.mem_singleton.mp hy]; exact S.par p List.mem_cons_self) (fun h₁ hns hsb => ⟨lim.fresh _ hsb, ?_⟩) S.kind)
    show codeAny _ _ (.expr b (envF F f s.heap.objs.size)) _ _
    have kp : ∀ b o, s.heap.get? b = some o → h₁.get? b = some o := fun b o e => hsb.extBut b o (Nat.ne_of_lt (Heap.lt_size e)) (Heap.get?_push_of_some _ e)
    have I : Inv (ncx CX0 P w K mg base N F f A outer s H (fun _ _ _ => False)) [] (startF N [v] ws) H { s with heap := h₁, toks := s.toks + [(p, u)].length } := inv_startN (ps := [p]) (us := [u]) (vs := [v]) S hr.hd e0 rfl (.cons r .nil) C hns kp
    refine PySem.W.kla_codeExpr (wpAny_mono ((hbody (hr.deeper _)).run [] _ _ H Q I h) (fun v s' hq => ?_) fun e s' hq => hq)
    obtain ⟨w', H', J', rv, q⟩ := hq
    exact ⟨w', H', J'.os, J'.bare, J'.base, J'.hok, rv, q⟩
  refine wpAny_call (codeAny_mono rc fun r s' hq => ?_)
  cases r with
  | error e => exact False.elim hq
  | ok fl =>
    cases fl with
    | ret u => exact hq
    | next => exact False.elim hq
    | brk => exact False.elim hq
    | cont => exact False.elim hq
end

/-! ### things that a built-in's own turns change: nobody tracks them -/
section
variable {X : Cx} {pins : List (Addr × Obj)} {σ : L2.St} {H : Hp} {s s0 : Shared} {H0 : Hp}
/-- what lies behind the place n is nobody's: no cell, no pin -/
structure Behind (X : Cx) (pins : List (Addr × Obj)) (n : Nat) : Prop where
  sz : X.s_0.heap.objs.size ≤ n
  loc : X.env.locals < n
  cell : ∀ x c, X.env.cells.lookup x = some c → c < n
  pin : ∀ p ∈ X.pn ++ pins, p.1 < n
theorem behind_of (I : Inv X pins σ H s) : Behind X pins s.heap.objs.size where
  sz := I.sz
  loc := I.lt
  cell := fun x c e => by
    obtain ⟨v, o, ho, _⟩ := I.cell x c e
    exact Heap.lt_size ho
  pin := fun p hp => Heap.lt_size (I.pin p hp).1
theorem Behind.mono {n m : Nat} (b : Behind X pins n) (h : n ≤ m) : Behind X pins m := ⟨Nat.le_trans b.sz h, Nat.lt_of_lt_of_le b.loc h, fun x c e => Nat.lt_of_lt_of_le (b.cell x c e) h, fun p hp => Nat.lt_of_lt_of_le (b.pin p hp) h⟩
theorem Behind.ch {n : Nat} (b : Behind X pins n) {ch : List Addr} (h : ∀ a ∈ ch, n ≤ a) : ∀ a ∈ ch, (a ∈ X.ex ∨ X.s_0.heap.objs.size ≤ a) ∧ a ≠ X.env.locals ∧ (∀ x c, X.env.cells.lookup x = some c → c ≠ a) ∧ ∀ p ∈ X.pn ++ pins, p.1 ≠ a := fun a ha =>
  have l := h a ha
  ⟨.inr (Nat.le_trans b.sz l), fun z => Nat.lt_irrefl _ (Nat.lt_of_lt_of_le b.loc (z ▸ l)), fun x c e z => Nat.lt_irrefl _ (Nat.lt_of_lt_of_le (b.cell x c e) (z ▸ l)), fun p hp z => Nat.lt_irrefl _ (Nat.lt_of_lt_of_le (b.pin p hp) (z ▸ l))⟩
theorem hok_but {P : Program} {w : World} {h h' : Heap} {ch : List Addr} (x : HOk P w H h) (hu : ∀ a ∈ ch, H a = none) (k : ∀ b o, b ∉ ch → h.get? b = some o → h'.get? b = some o) : HOk P w H h' := fun b u e => by
  refine (x b u e).stay (fun d v hd q => k d v (fun z => ?_) q) (fun d q => q) fun d xs q => q
  have n := hu d z
  rcases hd with rfl | hd
  · rw [n] at e; cases e
  · rw [n] at hd; cases hd
/-- unseen things change -/
theorem inv_hid {s' : Shared} {ch : List Addr} {n : Nat} (I : Inv X pins σ H s) (bh : Behind X pins n) (hc : ∀ a ∈ ch, n ≤ a) (hu : ∀ a ∈ ch, H a = none) (k : ∀ b o, b ∉ ch → s.heap.get? b = some o → s'.heap.get? b = some o) (ho : s'.os = s.os) (hg : s'.gens = s.gens) : Inv X pins σ H s' := by
  refine I.call' ho ⟨fun b o e _ _ nb => k b o nb e, fun b o e _ _ nb => ⟨o.slots, k b o nb e⟩, fun _ _ _ e _ => e, fun b o e nb => ⟨o, k b o nb e⟩, fun _ _ e => e, fun _ _ _ e => e, fun _ ps e => ⟨#[], by rw [Array.append_empty]; exact e⟩⟩ (hok_but I.hok hu k) (by rw [hg]; exact I.bare) (bh.ch hc)
/-- an unseen thing is seen from now on -/
theorem inv_see {a : Addr} {o : HO} {n : Nat} (I : Inv X pins σ H s) (bh : Behind X pins n) (hc : n ≤ a) (hu : H a = none) (new : ObjOk X.prog X.w (upd H a o) s.heap a o) : Inv X pins σ (upd H a o) s := by
  refine I.call' (ch := [a]) rfl ⟨fun b o e _ _ _ => e, fun b o e _ _ _ => ⟨o.slots, e⟩, fun b o e n nb => ?_, fun b o e _ => ⟨o, e⟩, fun b xs e => ?_, fun b u v e => ?_, fun b ps e => ⟨#[], ?_⟩⟩ (fun b u e => ?_) I.bare (bh.ch fun b hb => by rw [List.mem_singleton.mp hb]; exact hc)
  · exact (upd_ne fun z => nb (by rw [z]; exact List.mem_singleton.mpr rfl)).trans n
  · exact (upd_ne (ne_of_none e hu)).trans e
  · exact (upd_ne (ne_of_none e hu)).trans e
  · rw [Array.append_empty]; exact (upd_ne (ne_of_none e hu)).trans e
  · by_cases q : b = a
    · subst q; rw [upd_same] at e; cases e; exact new
    · rw [upd_ne q] at e
      exact (I.hok b u e).stay (fun _ _ _ z => z) (fun d z => (upd_ne (ne_of_none z hu)).trans z) fun d xs z => (upd_ne (ne_of_none z hu)).trans z
end
theorem vals_back : ∀ {xs : List V} {us : List Value} {i : Nat} {u : Value}, Vals xs us → us[i]? = some u → ∃ x, xs[i]? = some x ∧ RelV x u
  | [], _, _, _, h, e => by cases h; simp at e
  | x :: xs, _, 0, u, h, e => by
    cases h with
    | cons h r => simp at e; subst e; exact ⟨x, rfl, h⟩
  | x :: xs, _, i + 1, u, h, e => by
    cases h with
    | cons h r => exact vals_back (xs := xs) (i := i) r (by simpa using e)
/-! ### the walk over a list whose items are seen by what they are -/
theorem walksV {prog : Program} {w : World} {A : Around} {xs : List V} {I l : Addr} (hh : A.handled = none) (ne : l ≠ I) :
    WalksS prog w A I [I, l] [I] (fun a b => b = a) xs.length (fun i v => ∃ x, xs[i]? = some x ∧ RelV x v) (fun i s' => s'.heap.IsListIter I l i ∧ ∃ its : List Value, Vals xs its ∧ s'.heap.IsList l its.toArray) where
  sub := fun b hb => by rw [List.mem_singleton.mp hb]; exact List.mem_cons_self
  grefl := fun _ => rfl
  gtrans := fun _ _ _ h1 h2 => h2.trans h1
  frame := fun i s h' tk ⟨⟨o, h1, h2⟩, its, rv, o2, h3, h4⟩ _ k => ⟨⟨o, k _ List.mem_cons_self _ h1, h2⟩, its, rv, o2, k _ (List.mem_cons_of_mem _ List.mem_cons_self) _ h3, h4⟩
  item := fun i s Q E hi ⟨h1, its, rv, h2⟩ hQ => by
    have W := (Walks.list (prog := prog) (w := w) (A := A) hh I l ne its.toArray).toS
    refine W.item i s Q E (by rw [List.size_toArray, ← rv.length]; exact hi) ⟨h1, h2⟩ fun v s' hP st m => hQ v s' ?_ ⟨st.1, its, rv, st.2⟩ m
    have hP : its.toArray[i]? = some v := hP
    exact vals_back rv (by simpa using hP)
  done := fun s Q E ⟨h1, its, rv, h2⟩ hQ => by
    have W := (Walks.list (prog := prog) (w := w) (A := A) hh I l ne its.toArray).toS
    refine W.done s Q E ?_ hQ
    rw [List.size_toArray, ← rv.length]
    exact ⟨h1, h2⟩
  self := fun i s Q E ⟨h1, its, rv, h2⟩ hQ => by
    have W := (Walks.list (prog := prog) (w := w) (A := A) hh I l ne its.toArray).toS
    exact W.self i s Q E ⟨h1, h2⟩ hQ

/-! ### keys -/
/-- what a key tells of an item, at the slots ρ -/
abbrev KW := En → D → Om → (D → Om → Prop) → Prop
def dlt (d e : D) : Bool := PySem.W.dataLt (toPy d) (toPy e)
def alk (d e : D) : Bool := PySem.W.alike (toPy d) (toPy e)
def KeyOk (d : D) : Prop := eqD d = true ∧ dpt d ≤ 64 ∧ isNon d = false
/-- the function f, called within A', does kw -/
def CallsTo (X : Cx) (pins : List (Addr × Obj)) (σ : L2.St) (ρ : En) (kw : KW) (A' : Around) (f : Addr) (G : Z → Prop) : Prop :=
  ∀ (z : Z) (s : Shared) (v : V) (u : Value) (d : D) (Φ : D → Om → Prop) (E : Value → Shared → Prop), Inv X pins σ z.h s → z.Ok X.K → RepE X.K z.d σ ρ → G z → Rep X.K z.d v d → RelV v u → kw ρ d z.o Φ →
    wpAny (model X.prog X.w) A' (call (.ref f) [u]) (CE X.stack X.prog X.w z.h s fun v' H' => ∃ z' d', z'.h = H' ∧ To X.K z z' ∧ Rep X.K z'.d v' d' ∧ Φ d' z'.o) E s
theorem rep_dp {K : Fg} {z : Z} (k : z.Ok K) {v : V} {d : D} (r : Rep K z.d v d) (h : eqD d = true) : Dp K z.h v (toPy d) :=
  pyW_ok k (g := fun _ => none) (fun _ _ e => nomatch e) d v _ r (toPy_w _ d h)
theorem toPy_non {d : D} (h : isNon d = false) (e : eqD d = true) : toPy d ≠ .none := by
  cases d <;> first | (intro z; simp [toPy] at z; done) | (simp [isNon] at h; done) | (simp [eqD] at e; done)
/-- which item comes first by its key -/
def before (mx : Bool) (x y : D) : Bool := if mx then dlt y x else dlt x y
theorem best_of {mx : Bool} {kd : Nat → D} : ∀ n : Nat, argBest (fun i j => before mx (kd i) (kd j)) n ≤ n ∧ ∀ j, j ≤ n → before mx (kd j) (kd (argBest (fun i j => before mx (kd i) (kd j)) n)) = false := by
  have irr : ∀ a : D, before mx a a = false := fun a => by
    unfold before dlt PySem.W.dataLt
    cases mx <;> exact PyProof.Rows.lex_irrefl _
  have neg : ∀ a b c : D, before mx a c = true → before mx a b = true ∨ before mx b c = true := fun a b c h => by
    unfold before dlt PySem.W.dataLt at h ⊢
    cases mx
    · exact (PyProof.Rows.listOrd PyProof.Rows.itemOrd).negTrans _ _ _ h
    · exact ((PyProof.Rows.listOrd PyProof.Rows.itemOrd).negTrans _ _ _ h).symm
  have asym : ∀ a b : D, before mx a b = true → before mx b a = false := fun a b h => by
    cases e : before mx b a with
    | false => rfl
    | true =>
      unfold before dlt PySem.W.dataLt at h e
      cases mx
      · have := (PyProof.Rows.listOrd PyProof.Rows.itemOrd).trans _ _ _ h e
        rw [(PyProof.Rows.listOrd PyProof.Rows.itemOrd).irrefl] at this; exact this.symm
      · have := (PyProof.Rows.listOrd PyProof.Rows.itemOrd).trans _ _ _ h e
        rw [(PyProof.Rows.listOrd PyProof.Rows.itemOrd).irrefl] at this; exact this.symm
  intro n
  induction n with
  | zero => exact ⟨Nat.le_refl _, fun j hj => by
    obtain rfl : j = 0 := by omega
    exact irr (kd 0)⟩
  | succ n ih =>
    obtain ⟨h1, h2⟩ := ih
    show (if before mx (kd (n + 1)) (kd (argBest _ n)) then n + 1 else argBest _ n) ≤ n + 1 ∧ ∀ j, j ≤ n + 1 → before mx (kd j) (kd (if before mx (kd (n + 1)) (kd (argBest _ n)) then n + 1 else argBest _ n)) = false
    cases c : before mx (kd (n + 1)) (kd (argBest (fun i j => before mx (kd i) (kd j)) n)) with
    | true =>
      rw [if_pos rfl]
      refine ⟨Nat.le_refl _, fun j hj => ?_⟩
      by_cases e : j = n + 1
      · rw [e]; exact irr _
      · cases q : before mx (kd j) (kd (n + 1)) with
        | false => rfl
        | true =>
          rcases neg _ (kd (argBest (fun i j => before mx (kd i) (kd j)) n)) _ q with w | w
          · rw [h2 j (by omega)] at w; cases w
          · rw [asym _ _ c] at w; cases w
    | false =>
      rw [if_neg Bool.false_ne_true]
      refine ⟨by omega, fun j hj => ?_⟩
      by_cases e : j = n + 1
      · rw [e]; exact c
      · exact h2 j (by omega)
def selW (mx : Bool) (kw : KW) (ρ : En) (ds : List D) (ω : Om) (Φ : D → Om → Prop) : Prop := ∃ k : D → D, (∀ d ∈ ds, KeyOk (k d) ∧ ∀ Φ' : D → Om → Prop, Φ' (k d) ω → kw ρ d ω Φ') ∧ (∀ d ∈ ds, ∀ e ∈ ds, alk (k d) (k e) = true) ∧ ∀ m, m ∈ ds → (∀ y ∈ ds, before mx (k y) (k m) = false) → Φ m ω
theorem call_sel {prog : Program} {w : World} {A : Around} {E : Value → Shared → Prop} {s : Shared} (mx : Bool) {x d : Value} {q : Addr} {Q : Value → Shared → Prop}
    (h : wpAny (model prog w) A.in1 (pyIter x) (fun it s₂ => ∃ I fp wr G n P St J V bt, it = .ref I ∧ WalksS prog w A.in1 I fp wr G n P St ∧ St 0 s₂ ∧ (∀ b ∈ fp, b < s₂.heap.objs.size) ∧
      KeyRun prog w A.in1 (.ref q) (if mx then .Gt else .Lt) s₂.heap.objs.size wr G n P St J V bt ∧ J s₂ ∧ (n = 0 → ∀ s', J s' → Q d s') ∧ (0 < n → ∀ v s', P (argBest bt (n - 1)) v → J s' → Q v s')) E s) :
    wpAny (model prog w) A (call (.builtin (if mx then "max" else "min")) [x] [(Str.ofString "key", .ref q), (Str.ofString "default", d)]) Q E s := by
  cases mx
  · exact call_min_walkKD h
  · exact call_max_walkKD h
section
variable {X : Cx} {pins : List (Addr × Obj)} {σ : L2.St} {s : Shared} {z : Z} {ρ : En} {kw : KW} {f : Addr} {G : Z → Prop}
theorem sel_run {E : Value → Shared → Prop} {Q : VK} {Φ : D → Om → Prop} {vx ve : V} {ux ue : Value} {de : D} {ds : List D} (mx : Bool) (hh : X.A.handled = none) (hu : X.A.units + 100 < cLine) (I : Inv X pins σ z.h s) (ok : z.Ok X.K) (r : RepE X.K z.d σ ρ) (hG : ∀ z z', G z → To X.K z z' → z'.o = z.o → G z') (g : G z)
    (C : CallsTo X pins σ ρ kw X.A.in1 f G) (rx : Rep X.K z.d vx (.lst ds)) (rux : RelV vx ux) (re : Rep X.K z.d ve de) (rue : RelV ve ue) (h0 : ds = [] → Φ de z.o) (h1 : ds ≠ [] → selW mx kw ρ ds z.o Φ)
    (q : ∀ v z2 d, To X.K z z2 → Rep X.K z2.d v d → Φ d z2.o → Q v z2.h) :
    wpAny (model X.prog X.w) X.A (call (.builtin (if mx then "max" else "min")) [ux] [(Str.ofString "key", .ref f), (Str.ofString "default", ue)]) (EP X pins σ Q) E s := by
  obtain ⟨l, xs, rfl, hl0, rl⟩ := rep_lst rx
  have hl : SqL X.K z.h l xs := .inl (.inl (ok.fz _ _ hl0))
  obtain rfl : ux = .ref l := rux
  obtain ⟨its, rv, pl, _⟩ := I.list hl
  have bh := behind_of I
  have hlen : xs.length = ds.length := rl.length
  have ltl : l < s.heap.objs.size := by
    obtain ⟨o, n, e, _⟩ := pl
    exact Heap.lt_size e
  refine call_sel mx (PySem.W.iter_listW (A := X.A.in1) hh pl.isList fun s₂ e2 _ st _ _ hk => ?_)
  obtain ⟨k, hkey, hal, hsel⟩ : ∃ k : D → D, (∀ d ∈ ds, KeyOk (k d) ∧ ∀ Φ' : D → Om → Prop, Φ' (k d) z.o → kw ρ d z.o Φ') ∧ (∀ d ∈ ds, ∀ e ∈ ds, alk (k d) (k e) = true) ∧ ∀ m, m ∈ ds → (∀ y ∈ ds, before mx (k y) (k m) = false) → Φ m z.o := by
    by_cases c : ds = []
    · subst c; exact ⟨id, by simp, by simp, by simp⟩
    · exact h1 c
  have sz2 : s₂.heap.objs.size = s.heap.objs.size + 1 := by rw [e2]; exact Heap.size_push _ _
  let kd : Nat → D := fun i => k (ds.getD i .non)
  let JZ : Z → Shared → Prop := fun z' s' => To X.K z z' ∧ z'.o = z.o ∧ G z' ∧ Inv X pins σ z'.h s' ∧ z'.h s.heap.objs.size = none ∧ z'.h s₂.heap.objs.size = none
  have keep : ∀ z' s1 s', JZ z' s1 → Moved [s₂.heap.objs.size, s.heap.objs.size] (fun a b => b = a) s1 s' → JZ z' s' := fun z' s1 s' ⟨t, o, gz, J, n1, n2⟩ m => by
    have two : ∀ a ∈ [s₂.heap.objs.size, s.heap.objs.size], s.heap.objs.size ≤ a ∧ z'.h a = none := fun a ha => by
      simp only [List.mem_cons, List.not_mem_nil, or_false] at ha
      rcases ha with rfl | rfl
      · exact ⟨by rw [sz2]; exact Nat.le_succ _, n2⟩
      · exact ⟨Nat.le_refl _, n1⟩
    exact ⟨t, o, gz, inv_hid J bh (fun a ha => (two a ha).1) (fun a ha => (two a ha).2) m.heap m.os m.gens, n1, n2⟩
  have hget : ∀ i, i < xs.length → ds.getD i .non ∈ ds ∧ ds[i]? = some (ds.getD i .non) := fun i hi => by
    have hi' : i < ds.length := hlen ▸ hi
    rw [List.getD_eq_getElem?_getD, List.getElem?_eq_getElem hi']
    exact ⟨List.getElem_mem hi', rfl⟩
  refine ⟨s.heap.objs.size, [s.heap.objs.size, l], [s.heap.objs.size], (fun a b => b = a), xs.length, _, _, (fun s' => ∃ z', JZ z' s'), (fun i kv s' => i < xs.length ∧ ∃ z' v, JZ z' s' ∧ RelV v kv ∧ Rep X.K z'.d v (kd i)), (fun i j => before mx (kd i) (kd j)), rfl, walksV (A := X.A.in1) hh (Nat.ne_of_lt ltl), ⟨st.1, its, rv, st.2⟩, fun b hb => ?_, ⟨?_, ?_, ?_, ?_⟩, ?_, ?_, ?_⟩
  · rw [sz2]
    simp only [List.mem_cons, List.not_mem_nil, or_false] at hb
    rcases hb with rfl | rfl
    · exact Nat.lt_succ_self _
    · exact Nat.lt_succ_of_lt ltl
  · rintro s1 s' ⟨z', j⟩ m
    exact ⟨z', keep _ _ _ j m⟩
  · rintro i kv s1 s' ⟨hi, z', v, j, r1, r2⟩ m
    exact ⟨hi, z', v, keep _ _ _ j m, r1, r2⟩
  · -- the key of one item
    rintro i v s1 o Q' E' hi ⟨x, hxi, rxv⟩ hJ ⟨hit, its1, rv1, hl1⟩ hS hQ
    obtain ⟨hm, hgi⟩ := hget i hi
    obtain ⟨z0, j0⟩ := hJ
    have nofr : ∀ a, s.heap.objs.size ≤ a → a ∉ frs X.stack := fun a ha m => by
      rcases List.mem_cons.mp (I.stkSub _ m) with e | e
      · exact Nat.lt_irrefl _ (Nat.lt_of_lt_of_le I.lt (e ▸ ha))
      · exact I.nofs ha e
    have one : ∀ p : {z' : Z // JZ z' s1}, wpAny (model X.prog X.w) X.A.in1 (call (.ref f) [v]) (fun kv s' => ∃ z'', To X.K p.1 z'' ∧ JZ z'' s' ∧ (s'.heap.IsListIter s.heap.objs.size l (i + 1) ∧ ∃ its2 : List Value, Vals xs its2 ∧ s'.heap.IsList l its2.toArray) ∧ s'.heap.get? s₂.heap.objs.size = some o ∧ ∃ v', RelV v' kv ∧ Rep X.K z''.d v' (kd i)) E' s1 := by
      rintro ⟨z', t, eo, gz, J, n1, n2⟩
      obtain ⟨y, hy, ry⟩ := RepL.get (rl.mono t.ex) hgi
      rw [hxi] at hy; cases hy
      refine wpAny_mono (C z' s1 x v (ds.getD i .non) (fun d' ω' => d' = kd i ∧ ω' = z.o) E' J t.ok (r.mono t.ex) gz ry rxv ((by rw [eo]; exact (hkey _ hm).2 _ ⟨rfl, rfl⟩))) (fun kv s' hce => ?_) fun _ _ e => e
      obtain ⟨v', H', os', bare', un', hok', rk, z'', d', rfl, t2, r2, rfl, eo2⟩ := hce
      have J2 : Inv X pins σ z''.h s' := J.call' (ch := []) os' un' hok' bare' (fun b hb => absurd hb (by simp))
      obtain ⟨oi, ho1, ho2⟩ := hit
      refine ⟨z'', t2, ⟨t.trans t2, eo2, hG _ _ gz t2 (eo2.trans eo.symm), J2, un'.free _ _ ho1 n1 (by simp), un'.free _ _ hS n2 (by simp)⟩, ⟨⟨oi, un'.keep _ _ ho1 n1 (nofr _ (Nat.le_refl _)) (by simp), ho2⟩, ?_⟩, un'.keep _ _ hS n2 (nofr _ (by rw [sz2]; exact Nat.le_succ _)) (by simp), v', rk, r2⟩
      obtain ⟨its2, rv2, pl2, _⟩ := J2.list (xs := xs) (.inl (.inl ((t.trans t2).ok.fz _ _ ((t.trans t2).ex _ _ hl0))))
      exact ⟨its2, rv2, pl2.isList⟩
    refine wpAny_mono (wpAny_both (⟨z0, j0⟩ : {z' : Z // JZ z' s1}) one) (fun kv s' ha => ?_) fun _ _ e => e ⟨z0, j0⟩
    obtain ⟨z2, t2, j2, st2, hS2, v', r1, r2⟩ := ha ⟨z0, j0⟩
    refine hQ kv s' ⟨z2, j2⟩ st2 hS2 ⟨hi, z2, v', j2, r1, r2⟩ fun j k' ⟨hj, zj, vj, jj, rj, pj⟩ => ?_
    obtain ⟨z3, t3, j3, _⟩ := ha ⟨zj, jj⟩
    exact ⟨hj, z3, vj, j3, rj, pj.mono t3.ex⟩
  · rintro i j ki kj s1 Q' E' _ ⟨hi, z1, v1, ⟨t1, _, _, J1, _⟩, r1, p1⟩ ⟨hj, z2, v2, ⟨t2, _, _, J2, _⟩, r2, p2⟩ hQ
    obtain ⟨mi, _⟩ := hget i hi
    obtain ⟨mj, _⟩ := hget j hj
    obtain ⟨a1, a2, a3⟩ := (hkey _ mi).1
    obtain ⟨b1, b2, b3⟩ := (hkey _ mj).1
    obtain ⟨as, ra⟩ := Dp.reads J1 _ _ _ (rep_dp t1.ok p1 a1) r1
    obtain ⟨bs, rb⟩ := Dp.reads J2 _ _ _ (rep_dp t2.ok p2 b1) r2
    have dd : X.A.in1.units + min (toPy (kd i)).depth (toPy (kd j)).depth < cLine := by
      have e1 : (toPy (kd i)).depth ≤ 64 := by rw [toPy_d]; exact a2
      have := Nat.min_le_left (toPy (kd i)).depth (toPy (kd j)).depth
      show X.A.units + 1 + _ < _
      omega
    cases mx
    · exact PySem.W.rcLt_alike _ _ X.A.in1 s1 ki kj _ _ ra rb (hal _ mi _ mj) (toPy_non a3 a1) dd X.prog X.w E' Q' hQ
    · exact PySem.W.rcGt_alike _ _ X.A.in1 s1 ki kj _ _ ra rb (hal _ mi _ mj) (toPy_non a3 a1) dd X.prog X.w E' Q' hQ
  · refine ⟨z, ok.to, rfl, g, ?_, I.hok.fresh (Nat.le_refl _), I.hok.fresh (by rw [sz2]; exact Nat.le_succ _)⟩
    rw [e2]
    exact I.kept (t' := s.toks) fun b o e => Heap.get?_push_of_some _ e
  · rintro hn s' ⟨z', t, eo, _, J, _⟩
    have : ds = [] := List.eq_nil_of_length_eq_zero (by rw [← hlen]; exact hn)
    exact ⟨ve, z'.h, J, rue, q _ _ de t (re.mono t.ex) (by rw [eo]; exact h0 this)⟩
  · rintro hn v s' ⟨x, hx1, rxv⟩ ⟨z', t, eo, _, J, _⟩
    obtain ⟨b1, b2⟩ := best_of (mx := mx) (kd := kd) (xs.length - 1)
    have hlt : argBest (fun i j => before mx (kd i) (kd j)) (xs.length - 1) < xs.length := by omega
    obtain ⟨hm, hgi⟩ := hget _ hlt
    obtain ⟨y, hy, ry⟩ := RepL.get (rl.mono t.ex) hgi
    rw [hx1] at hy; cases hy
    refine ⟨x, z'.h, J, rxv, q _ _ _ t ry ?_⟩
    rw [eo]
    refine hsel _ hm fun y hy => ?_
    obtain ⟨j, hj, rfl⟩ := List.mem_iff_getElem.mp hy
    have e := b2 j (by omega)
    have ej : kd j = k ds[j] := by
      show k (ds.getD j .non) = _
      rw [List.getD_eq_getElem?_getD, List.getElem?_eq_getElem hj]
      rfl
    rw [ej] at e
    exact e
end

/-! ### readings that are told by what they come to -/
def BE.ofW {K : Fg} (w : WPe) : BE K where
  t := fun W σ H Q => ∃ (z : Z) (ρ : En) (Φ : D → Om → Prop) (Ψ : Exn → Om → Prop), z.h = H ∧ w ρ z.o Φ Ψ ∧ z.Ok K ∧ RepE K z.d σ ρ ∧ (∀ v z2 d, To K z z2 → Rep K z2.d v d → Φ d z2.o → Q v z2.h) ∧ ∀ x cls d z2, To K z z2 → RepX K z2 cls d x → Ψ x z2.o → W cls d σ z2.h
  w := w
  ok := fun W ρ z σ Q Φ Ψ h o r q qx => ⟨z, ρ, Φ, Ψ, rfl, h, o, r, q, qx⟩
/-- a key: a function is made, or stands there -/
structure PKey (X : Cx) (ke : Expr) (kw : KW) : Prop where
  run : ∀ (pins : List (Addr × Obj)) (s : Shared) (σ : L2.St) (z : Z) (ρ : En), Inv X pins σ z.h s → z.Ok X.K → RepE X.K z.d σ ρ →
    wpAny (model X.prog X.w) X.A (eval ke X.env) (fun u s' => ∃ (f : Addr) (z1 : Z) (G : Z → Prop), u = .ref f ∧ To X.K z z1 ∧ z1.o = z.o ∧ Inv X pins σ z1.h s' ∧ G z1 ∧ (∀ z z', G z → To X.K z z' → z'.o = z.o → G z') ∧ CallsTo X pins σ ρ kw X.A.in1 f G ∧ CallsTo X pins σ ρ kw X.A.in1.in1 f G) X.xe s
def varO (ρ : En) (j : Nat) : Option D := match ρ[j]? with
  | some o => o
  | none => none
/-- a lambda's slots: its parameter, what it captures -/
def kEnv (n : Nat) (js : List Nat) (ρ : En) (d : D) : En := some d :: (js.map (varO ρ) ++ List.replicate (n - 1 - js.length) none)
def kwL {K : Fg} (B : BE K) (n : Nat) (js : List Nat) : KW := fun ρ d ω Φ => B.w (kEnv n js ρ d) ω Φ X0
def kwF (W : WP) : KW := fun _ d ω Φ => W [d] ω Φ
theorem rep_kenv {K : Fg} {H : Hp} {σ : L2.St} {ρ : En} {v : V} {d : D} {N : List Str} {js : List Nat} (r : RepE K H σ ρ) (h : Rep K H v d) (hj : 1 + js.length ≤ N.length) : RepE K H (startF N [v] (js.map (slotAt σ))) (kEnv N.length js ρ d) := by
  unfold startF kEnv
  refine ⟨by simp, fun i e hi => ?_⟩
  match i with
  | 0 =>
    simp at hi
    subst hi
    exact ⟨v, rfl, h⟩
  | i + 1 =>
    rw [List.getElem?_cons_succ] at hi
    show ∃ w, ((js.map (slotAt σ)) ++ List.replicate (N.length - [v].length - (js.map (slotAt σ)).length) none)[i]? = some (some w) ∧ Rep K H w e
    by_cases c : i < js.length
    · rw [List.getElem?_append_left (by simpa using c), List.getElem?_map, List.getElem?_eq_getElem c] at hi
      have hi : varO ρ js[i] = some e := Option.some.inj hi
      have h2 : ρ[js[i]]? = some (some e) := by
        unfold varO at hi
        cases q : ρ[js[i]]? with
        | none => rw [q] at hi; cases hi
        | some o => rw [q] at hi; have hi : o = some e := hi; rw [hi]
      obtain ⟨w, w1, w2⟩ := r.at_ _ _ h2
      refine ⟨w, ?_, w2⟩
      rw [List.getElem?_append_left (by simpa using c), List.getElem?_map, List.getElem?_eq_getElem c]
      show some (slotAt σ js[i]) = _
      rw [slotAt_of w1]
    · rw [List.getElem?_append_right (by simpa using Nat.le_of_not_lt c), List.getElem?_replicate] at hi
      split at hi <;> cases hi
theorem to_fn {K : Fg} {z : Z} {H1 : Hp} (ok : z.Ok K) (k1 : ∀ b o, z.h b = some o → NT o → H1 b = some o) (k2 : ∀ b, z.h b ≠ none → H1 b ≠ none) (k3 : TabsN (tabsN K) H1) : To K z ⟨z.d, H1, z.o, z.t⟩ := by
  refine ⟨⟨fun a o e => k1 a o (ok.fz a o e) (ok.nd a o e), fun a c e => ?_, by rw [show (⟨z.d, H1, z.o, z.t⟩ : Z).t = tabsN K from ok.tk]; exact k3, ok.tk, ok.nd⟩, .refl _, fun a o e _ nt => k1 a o e nt, fun a e => k2 a e, rfl, fun _ e => .inl e, fun _ e => .inl e⟩
  obtain ⟨c1, c2⟩ := ok.cell a c e
  exact ⟨c1, c2.mono (.refl _) fun o e => k1 a o e (repC_plain c2 e).1⟩
section
variable {X : Cx} {W : WX}
theorem PKey.lam {k : Nat} {params : Arguments} {body : Expr} {scope : Scope} {pos : Pos} {N fr : List Str} {p : Str} {js : List Nat} {n : Nat} (B : BE X.K) (lc : LamC X "<lambda>") (hr : Room (k + 3) X.A) (hdef : defaultsOf params X.env = ([], [])) (S : NScope N [p] fr scope) (hn : N.length = n)
    (hnd : ndefB X.env.scope scope fr = true) (hjs : js.map (fun j => X.N[j]?) = fr.map some) (hl : 1 + js.length ≤ N.length)
    (hbind : ∀ (name qual : Str) (cl : List (Str × Addr)) (pm cd ctv u : Value), bindArgs (PySem.W.kla_fn name qual params body scope cl pm cd ctv) ⟨[u], []⟩ = pure [(p, u)])
    (hb : ∀ (f c' : Addr) (A : Around) (outer : List Env) (s : Shared) (H : Hp), Room k (A.deeper (envF (lamNF X params scope c') f s.heap.objs.size)) → PE (ncx CX0 X.prog X.w X.K X.mg X.base N (lamNF X params scope c') f A outer s H (fun _ _ _ => False)) body (B.t W0)) :
    PKey X (.Lambda params body scope pos) (kwL B n js) := by
  refine ⟨fun pins s σ z ρ I ok r => ?_⟩
  have hfree := ndef_free hnd
  refine wpAny_mono ((pe_lamV (pos := pos) lc hdef hfree).run pins s σ z.h (fun v H1 => ∃ (f c' : Addr) (z1 : Z), v = .ref f ∧ z1.h = H1 ∧ To X.K z z1 ∧ z1.o = z.o ∧ z1.h f = some (LamO f (lamNF X params scope c') body) ∧ z1.h c' = some (CodeO c' (X.env.qual ++ "<lambda>")) ∧ z1.o f = none ∧ z1.o c' = none) I ⟨by have := ok.tab; rw [ok.tk] at this; exact this, fun f c' H1 k1 k2 k3 k4 k5 k6 => ?_⟩) ?_ fun e s' z => z
  · have t := to_fn ok k1 k2 k3
    have nc : ∀ {a : Addr} {o : HO}, H1 a = some o → (∀ ds c, RepC X.K z.d H1 a c → o = ds → True) → (∃ q, o = CodeO a q) → z.o a = none := fun {a o} e _ hq => by
      cases q : z.o a with
      | none => rfl
      | some c =>
        obtain ⟨q', rfl⟩ := hq
        exact absurd rfl ((repC_plain (t.ok.cell a c q).2 e).2 a q')
    refine ⟨f, c', ⟨z.d, H1, z.o, z.t⟩, rfl, rfl, t, rfl, k5, k6, (ok.free k4).2, nc k6 (fun _ _ _ _ => trivial) ⟨_, rfl⟩⟩
  · rintro u s' ⟨v, H1, J, rv, f, c', z1, rfl, rfl, t, eo, h1, h2, n1, n2⟩
    obtain rfl : u = .ref f := rv
    have calls : ∀ A' : Around, Room (k + 1) A' → A'.frames = X.A.frames → CallsTo X pins σ ρ (kwL B n js) A' f fun z' => z'.h f = some (LamO f (lamNF X params scope c') body) ∧ z'.h c' = some (CodeO c' (X.env.qual ++ "<lambda>")) ∧ z'.o f = none ∧ z'.o c' = none := by
      intro A' hA hfr z2 s2 v u d Φ E' I2 ok2 r2 ⟨g1, g2, _, _⟩ rd ru hk
      have e0 := I2.env0
      have hB : (B.t W0) (startF N [v] (js.map (slotAt σ))) z2.h (fun v' H' => ∃ z' d', z'.h = H' ∧ To X.K z2 z' ∧ Rep X.K z'.d v' d' ∧ Φ d' z'.o) := by
        subst hn
        exact B.ok W0 _ z2 _ _ Φ X0 hk ok2 (rep_kenv r2 rd hl) (fun v' z' d' t' r' h' => ⟨z', d', rfl, t', r', h'⟩) fun _ _ _ _ _ _ z => z.elim
      exact lam_run (k := k) (tb := B.t W0) S (fun pm ctv u => hbind _ _ _ pm _ ctv u) hA ⟨hfr.trans e0.frames, e0.mod, e0.bs, e0.bsz, e0.funs, e0.frf, e0.hok, e0.bare⟩ g1 g2 (cells_of I2 (Caps.made I2.ok hfree (ndef_fr hnd) hjs)) ru (fun hr => hb f c' A' X.stack s2 z2.h hr) hB
    refine ⟨f, z1, _, rfl, t, eo, J, ⟨h1, h2, n1, n2⟩, fun za zb ⟨g1, g2, g3, g4⟩ tt ee => ⟨tt.keep _ _ g1 g3 lamO_nt, tt.keep _ _ g2 g4 codeO_nt, by rw [ee]; exact g3, by rw [ee]; exact g4⟩, calls _ (Room.mono hr.in1 (by omega)) rfl, calls _ hr.in1.in1 rfl⟩
end
end T

/-! sorted by a key; the rules of calls with keys. -/
namespace T
open PySem PySem.Spec PyProof.Rows L2 LamX NdefX
/-- the order in which sorted leaves things -/
def leK (rev : Bool) (k : D → D) : D → D → Bool := PySem.W.dataLe rev fun d => toPy (k d)
def sortW (rev : Bool) (kw : KW) (ρ : En) (ds : List D) (ω : Om) (F : List D → Prop) : Prop := ∃ k : D → D, (∀ d ∈ ds, KeyOk (k d) ∧ ∀ Φ' : D → Om → Prop, Φ' (k d) ω → kw ρ d ω Φ') ∧ (∀ d ∈ ds, ∀ e ∈ ds, alk (k d) (k e) = true) ∧ ((∀ d ∈ ds, ∃ x r, k d = .tup (x :: r)) ∨ ∀ d ∈ ds, ∀ xs, k d ≠ .tup xs) ∧ F (ds.mergeSort (leK rev k))
section
variable {X : Cx} {pins : List (Addr × Obj)} {σ : L2.St} {s : Shared} {z : Z} {ρ : En} {kw : KW} {f : Addr} {G : Z → Prop}
theorem each_of {α β : Type} {R : α → β → Prop} : ∀ {as : List α} {bs : List β}, as.length = bs.length → (∀ (i : Nat) (a : α) (b : β), as[i]? = some a → bs[i]? = some b → R a b) → PySem.W.EachIs R as bs
  | [], [], _, _ => .nil
  | [], _ :: _, h, _ => by simp at h
  | _ :: _, [], h, _ => by simp at h
  | a :: as, b :: bs, h, k => .cons (k 0 a b rfl rfl) (each_of (by simpa using h) fun i x y hx hy => k (i + 1) x y (by simpa using hx) (by simpa using hy))
theorem each_pair {α β γ : Type} {R : α → β → Prop} {S : β → γ → Prop} : ∀ {as : List α} {bs : List (β × γ)}, PySem.W.EachIs (fun a b => R a b.1) as bs → (∀ b ∈ bs, S b.1 b.2) → Paired R as (bs.map (·.1)) ∧ Paired S (bs.map (·.1)) (bs.map (·.2))
  | [], [], _, _ => ⟨.nil, .nil⟩
  | [], _ :: _, h, _ => nomatch h
  | _ :: _, [], h, _ => nomatch h
  | _ :: _, _ :: _, h, k => by
    cases h with
    | cons h r =>
      obtain ⟨a, b⟩ := each_pair r fun b hb => k b (List.mem_cons_of_mem _ hb)
      exact ⟨.cons h a, .cons (k _ List.mem_cons_self) b⟩
theorem vals_of_pair : ∀ {us : List Value} {xs : List V}, Paired (fun u x => RelV x u) us xs → Vals xs us
  | [], [], _ => .nil
  | _ :: _, _ :: _, h => by
    cases h with
    | cons h r => exact .cons h (vals_of_pair r)
theorem repL_of_pair {K : Fg} {H : Hp} : ∀ {xs : List V} {ds : List D}, Paired (fun x d => Rep K H x d) xs ds → RepL K H xs ds
  | [], [], _ => .nil
  | _ :: _, _ :: _, h => by
    cases h with
    | cons h r => exact .cons h (repL_of_pair r)
theorem sort_run {E : Value → Shared → Prop} {Q : VK} {vx : V} {ux : Value} {dx : D} {ds : List D} {kws : List (Str × Value)} (rev : Bool) (hu : X.A.units + 100 < cLine) (I : Inv X pins σ z.h s) (ok : z.Ok X.K) (r : RepE X.K z.d σ ρ) (hG : ∀ z z', G z → To X.K z z' → z'.o = z.o → G z') (g : G z)
    (C : CallsTo X pins σ ρ kw X.A.in1.in1 f G) (rx : Rep X.K z.d vx dx) (rux : RelV vx ux) (hx : lstOf z.o dx = some ds)
    (ha1 : ∀ l, argsOk "sorted" ⟨[.ref l], kws⟩) (ha2 : ∀ x, argsOk "list.sort" ⟨[.ref x], kws⟩) (ht : ∀ x, Builtin.«list.sort» ⟨[.ref x], kws⟩ = ksk_tree x (.ref f) rev)
    (h : sortW rev kw ρ ds z.o fun out => ∀ (a : Addr) (ys : List V) (z2 : Z), To X.K z z2 → z2.o = z.o → z2.h a = none → RepL X.K z2.d ys out → Q (.ref a) (upd z2.h a (.lst ys))) :
    wpAny (model X.prog X.w) X.A (call (.builtin "sorted") [ux] kws) (EP X pins σ Q) E s := by
  obtain ⟨k, hkey, hal, hsk, hF⟩ := h
  obtain ⟨l, xs, rfl, hl0, rl⟩ := lstOf_seq ok rx hx
  obtain rfl : ux = .ref l := rux
  obtain ⟨its, rv, pl, hz0⟩ := I.list hl0
  have hlen : xs.length = ds.length := rl.length
  have hlv : its.length = ds.length := rv.length.symm.trans hlen
  have hZ : its.length ≤ sizeLine := by rw [hlv, ← hlen]; exact hz0
  have bh := behind_of I
  refine PySem.W.sorted_of_sort pl.isList hZ (ha1 l) ha2 fun E' => ?_
  rw [ht]
  -- the places of the sorted list and of the keys
  obtain ⟨a, ea⟩ : ∃ a, a = s.heap.objs.size + 1 := ⟨_, rfl⟩
  rw [← ea]
  have ho : (PySem.W.copyHeap s.heap its).get? a = some (seqObj "list" its.toArray 0) := by rw [ea]; exact PySem.W.copyHeap_at s.heap its
  have szc : (PySem.W.copyHeap s.heap its).objs.size = s.heap.objs.size + 2 := by
    unfold PySem.W.copyHeap
    rw [size_push', Heap.size_update, size_push']
  unfold ksk_tree
  refine wpAny_bind (listItems_at ho rfl ?_)
  refine wpAny_bind (listUpdate_at ho rfl ?_ (by rw [List.size_toArray]; exact hZ) (Nat.zero_le _))
  obtain ⟨e1, ho1⟩ : ∃ e1, ((PySem.W.copyHeap s.heap its).update a (Obj.mapSeq fun _ => (#[] : Array Value))).get? a = some (seqObj "list" #[] e1) := ⟨_, get?_update_seq ho fun _ => #[]⟩
  refine wpAny_bind (seqEpoch_at ho1 rfl ?_)
  refine wpAny_bind (wpAny_newTuple ?_ (by show its.length ≤ _; exact hZ))
  refine wpAny_bind (wpAny_newList ?_ (Nat.zero_le _))
  refine wpAny_holding ?_
  obtain ⟨kS, ekS⟩ : ∃ kS, kS = (((PySem.W.copyHeap s.heap its).update a (Obj.mapSeq fun _ => (#[] : Array Value))).push (seqObj "tuple" its.toArray 0)).objs.size := ⟨_, rfl⟩
  have ekS2 : kS = s.heap.objs.size + 3 := by rw [ekS, size_push', Heap.size_update, szc]
  have hka : kS ≠ a := by rw [ekS2, ea]; exact Nat.ne_of_gt (by omega)
  have nofr : ∀ b, s.heap.objs.size ≤ b → b ∉ frs X.stack := fun b hb m => by
    rcases List.mem_cons.mp (I.stkSub _ m) with e | e
    · exact Nat.lt_irrefl _ (Nat.lt_of_lt_of_le I.lt (e ▸ hb))
    · exact I.nofs hb e
  have ga : s.heap.objs.size ≤ a := by rw [ea]; exact Nat.le_succ _
  have gk : s.heap.objs.size ≤ kS := by rw [ekS2]; exact Nat.le_add_right _ _
  let JZ : Z → Shared → Prop := fun z' s' => To X.K z z' ∧ z'.o = z.o ∧ G z' ∧ Inv X pins σ z'.h s' ∧ z'.h a = none ∧ z'.h kS = none
  let Keys : Nat → Z → Array Value → Prop := fun n z' kA => kA.size = n ∧ ∀ (i : Nat) (kv : Value), kA.toList[i]? = some kv → ∃ (v : V) (d : D), ds[i]? = some d ∧ RelV v kv ∧ Rep X.K z'.d v (k d)
  show wpAny _ _ (ksk_rest a (.ref f) rev its.toArray e1 (.ref (((PySem.W.copyHeap s.heap its).update a (Obj.mapSeq fun _ => (#[] : Array Value))).push (seqObj "tuple" its.toArray 0)).objs.size)) _ _ _
  rw [← ekS]
  unfold ksk_rest
  refine wpAny_bind (wpAny_rule ?_)
  rw [List.forIn_toArray]
  refine wpAny_bind (ksk_fold (fun i s' => ∃ z' kA e, JZ z' s' ∧ s'.heap.get? kS = some (seqObj "list" kA e) ∧ s'.heap.get? a = some (seqObj "list" #[] e1) ∧ Keys i z' kA) its 0 _ ?start ?step ?done)
  case start =>
    refine ⟨z, #[], 0, ⟨ok.to, rfl, g, ?_, I.hok.fresh ga, I.hok.fresh gk⟩, ?_, ?_, rfl, fun i kv hi => by simp at hi⟩
    · refine I.kept fun b o e => Heap.get?_push_of_some _ (Heap.get?_push_of_some _ ((Heap.get?_update_ne _ _ _ _ ?_).trans (PySem.W.copyHeap_old e)))
      rw [ea]
      exact Nat.ne_of_lt (Nat.lt_succ_of_lt (Heap.lt_size e))
    · rw [ekS]; exact Heap.get?_push_size _ rfl
    · exact Heap.get?_push_of_some _ (Heap.get?_push_of_some _ ho1)
  case step =>
    rintro j u s1 hu1 ⟨z', kA, e, ⟨t, eo, gz, J, n1, n2⟩, hk1, hk2, hk3, hk4⟩
    rw [Nat.zero_add] at hk3 ⊢
    obtain ⟨v, hv, rvu⟩ := vals_back rv hu1
    have hj : j < ds.length := by
      have := (List.getElem?_eq_some_iff.mp hu1).1
      omega
    obtain ⟨y, hy, ry⟩ := RepL.get (rl.mono t.ex) (List.getElem?_eq_getElem hj)
    rw [hv] at hy; cases hy
    have hm : ds[j] ∈ ds := List.getElem_mem hj
    refine wpAny_bind (wpAny_attempt (wpAny_mono (C z' s1 v u ds[j] (fun d' ω' => d' = k ds[j] ∧ ω' = z.o) (fun _ _ => False) J t.ok (r.mono t.ex) gz ry rvu (by rw [eo]; exact (hkey _ hm).2 _ ⟨rfl, rfl⟩)) (fun kv s2 hce => ?_) fun _ _ e => e.elim))
    obtain ⟨v', H', os', bare', un', hok', rk, z2, d', rfl, t2, r2, rfl, eo2⟩ := hce
    have J2 : Inv X pins σ z2.h s2 := J.call' (ch := []) os' un' hok' bare' (fun b hb => absurd hb (by simp))
    have m1 := un'.free _ _ hk2 n1 (by simp)
    have m2 := un'.free _ _ hk1 n2 (by simp)
    have q1 := un'.keep _ _ hk1 n2 (nofr _ gk) (by simp)
    have q2 := un'.keep _ _ hk2 n1 (nofr _ ga) (by simp)
    have zA : kA.size ≤ its.length := by omega
    obtain ⟨c2, hc2⟩ : ∃ c2, (s2.heap.update kS (Obj.mapSeq (·.push kv))).get? kS = some (seqObj "list" (kA.push kv) c2) := ⟨_, get?_update_seq q1 (·.push kv)⟩
    have but := Heap.SameBut.update s2.heap kS (Obj.mapSeq (·.push kv))
    refine wpAny_bind (listUpdate_at q1 rfl ?_ (Nat.le_trans zA hZ) (Nat.le_trans (Nat.le_of_eq (Array.size_push ..)) (Nat.succ_le_succ (Nat.le_trans zA hZ))))
    refine wpAny_pure ⟨rfl, z2, kA.push kv, c2, ⟨t.trans t2, eo2, hG _ _ gz t2 (eo2.trans eo.symm), ?_, m1, m2⟩, hc2, (but.2 a hka.symm).trans q2, by rw [Array.size_push, hk3], fun i w hw => ?_⟩
    · refine inv_hid (ch := [kS]) J2 bh (fun b hb => by rw [List.mem_singleton.mp hb]; exact gk) (fun b hb => by rw [List.mem_singleton.mp hb]; exact m2) (fun b o nb e => (but.2 b fun q => nb (by rw [q]; exact List.mem_singleton.mpr rfl)).trans e) rfl rfl
    · rw [Array.toList_push] at hw
      by_cases c : i < kA.toList.length
      · rw [List.getElem?_append_left c] at hw
        obtain ⟨v0, d0, x1, x2, x3⟩ := hk4 i w hw
        exact ⟨v0, d0, x1, x2, x3.mono t2.ex⟩
      · rw [List.getElem?_append_right (by omega)] at hw
        have ei : i = j := by
          have := (List.getElem?_eq_some_iff.mp hw).1
          have : kA.toList.length = j := by rw [Array.length_toList]; exact hk3
          simp at *
          omega
        subst ei
        have : i - kA.toList.length = 0 := by rw [Array.length_toList, hk3]; omega
        rw [this] at hw
        cases hw
        exact ⟨v', _, List.getElem?_eq_getElem hj, rk, r2⟩
  case done =>
    rintro s1 ⟨z', kA, e, ⟨t, eo, gz, J, n1, n2⟩, hk1, hk2, hk3, hk4⟩
    rw [Nat.zero_add] at hk3
    have eL : kA.toList.length = ds.length := by rw [Array.length_toList, hk3, hlv]
    have reads : PySem.W.EachIs (fun v d => ∃ as, Reads s1.heap v d as) kA.toList (ds.map fun d => toPy (k d)) := by
      refine each_of (by rw [List.length_map]; exact eL) fun i kv p h1 h2 => ?_
      obtain ⟨v, d, x1, x2, x3⟩ := hk4 i kv h1
      rw [List.getElem?_map, x1] at h2
      cases h2
      exact Dp.reads J _ _ _ (rep_dp t.ok x3 (hkey d (List.mem_of_getElem? x1)).1.1) x2
    have allA : PySem.W.AllAlike (ds.map fun d => toPy (k d)) := fun p hp p' hp' => by
      obtain ⟨d, hd, rfl⟩ := List.mem_map.mp hp
      obtain ⟨d', hd', rfl⟩ := List.mem_map.mp hp'
      exact hal d hd d' hd'
    have sortA : PySem.W.Sortable (ds.map fun d => toPy (k d)) := by
      rcases hsk with q | q
      · refine .inl fun p hp => ?_
        obtain ⟨d, hd, rfl⟩ := List.mem_map.mp hp
        obtain ⟨x, xr, e⟩ := q d hd
        exact ⟨toPy x, toPyL xr, by rw [e]; simp [toPy, toPyL]⟩
      · refine .inr fun p hp => ?_
        obtain ⟨d, hd, rfl⟩ := List.mem_map.mp hp
        refine ⟨toPy_non (hkey d hd).1.2.2 (hkey d hd).1.1, fun ps e => ?_⟩
        cases c : k d with
        | tup xs' => exact q d hd xs' c
        | _ => rw [c] at e; simp [toPy] at e
    obtain ⟨g0, gy, gn⟩ := L2.restrict s1.heap fun b => decide (b ≠ kS)
    have gk0 : g0.get? kS = none := gn kS (by simp)
    have kp : PySem.W.KeepsBut a g0 s1.heap := fun b o _ e => by
      by_cases c : b = kS
      · rw [c, gk0] at e; cases e
      · rw [gy b (by simpa using c)] at e; exact e
    refine wpAny_bind (listItems_at hk1 rfl ?_)
    refine PySem.W.keyH_end (κ := PySem.W.dataKind s1.heap (ds.map fun d => toPy (k d))) (h₁ := g0) kp gk0 hk1 hk2 hka (PySem.W.SortsAt.data reads allA sortA fun p hp => ?_) (by rw [hk3]) hZ fun h' tk c kp' hD => ⟨rfl, ?_⟩
    · obtain ⟨d, hd, rfl⟩ := List.mem_map.mp hp
      have : (toPy (k d)).depth ≤ 64 := by rw [toPy_d]; exact (hkey d hd).1.2.1
      show X.A.units + 1 + 1 + _ < _
      omega
    -- what is left: the items by their keys
    have kout : PySem.W.KeyedOut rev ((xs.zip ds).map fun p => toPy (k p.2)) its (PySem.W.sortVals (PySem.W.dataKind s1.heap (ds.map fun d => toPy (k d))) rev kA.toList its) := by
      have e2 : (xs.zip ds).map (fun p => toPy (k p.2)) = ds.map fun d => toPy (k d) := by
        have : (xs.zip ds).map (·.2) = ds := by
          rw [List.map_snd_zip]; omega
        calc (xs.zip ds).map (fun p => toPy (k p.2)) = ((xs.zip ds).map (·.2)).map fun d => toPy (k d) := by rw [List.map_map]; rfl
          _ = _ := by rw [this]
      rw [e2]
      exact ⟨s1.heap, kA.toList, allA, rfl, reads⟩
    have eachx : PySem.W.EachIs (fun (u : Value) (p : V × D) => RelV p.1 u) its (xs.zip ds) := by
      refine each_of (by rw [List.length_zip]; omega) fun i u p h1 h2 => ?_
      obtain ⟨x, hx1, rxu⟩ := vals_back rv h1
      rw [List.getElem?_zip_eq_some] at h2
      rw [hx1] at h2
      rw [← Option.some.inj h2.1]
      exact rxu
    have outE := PySem.W.keyedOut_each (R := fun (u : Value) (p : V × D) => RelV p.1 u) (fun p : V × D => toPy (k p.2)) kout eachx
    obtain ⟨p1, p2⟩ := each_pair (R := fun u x => RelV x u) (S := fun x d => Rep X.K z'.d x d) outE (fun p hp => by
      rw [List.mem_mergeSort] at hp
      obtain ⟨i, hi, e⟩ := List.mem_iff_getElem.mp hp
      have hi2 : i < ds.length := by rw [List.length_zip] at hi; omega
      obtain ⟨w, hw, rw'⟩ := RepL.get (rl.mono t.ex) (List.getElem?_eq_getElem hi2)
      have : (xs.zip ds)[i]? = some (w, ds[i]) := by rw [List.getElem?_zip_eq_some]; exact ⟨hw, List.getElem?_eq_getElem hi2⟩
      rw [List.getElem?_eq_getElem hi, e] at this
      cases this
      exact rw')
    have eo2 : ((xs.zip ds).mergeSort (PySem.W.dataLe rev fun p : V × D => toPy (k p.2))).map (·.2) = ds.mergeSort (leK rev k) := by
      have e1 := List.map_mergeSort (r := PySem.W.dataLe rev fun p : V × D => toPy (k p.2)) (s := leK rev k) (f := fun p : V × D => p.2) (l := xs.zip ds) fun a _ b _ => rfl
      exact e1.trans (congrArg (fun l => List.mergeSort l (leK rev k)) (List.map_snd_zip (by omega)))
    rw [eo2] at p2
    generalize ((xs.zip ds).mergeSort (PySem.W.dataLe rev fun p : V × D => toPy (k p.2))).map (·.1) = ys at p1 p2
    have ry := repL_of_pair p2
    have vy := vals_of_pair p1
    have old : ∀ b o, b ∉ [a, kS] → s1.heap.get? b = some o → h'.get? b = some o := fun b o nb e => by
      refine kp' b o (fun q => nb (by rw [q]; simp)) ?_
      rw [gy b (by simp at nb ⊢; exact nb.2)]
      exact e
    have J3 : Inv X pins σ z'.h { s1 with heap := h', toks := tk } := inv_hid (ch := [a, kS]) J bh (fun b hb => by
      simp only [List.mem_cons, List.not_mem_nil, or_false] at hb
      rcases hb with rfl | rfl
      · exact ga
      · exact gk) (fun b hb => by
      simp only [List.mem_cons, List.not_mem_nil, or_false] at hb
      rcases hb with rfl | rfl
      · exact n1
      · exact n2) old rfl rfl
    have lny : ys.length ≤ sizeLine := by
      rw [ry.length, List.length_mergeSort, ← hlen]; exact hz0
    exact ⟨.ref a, _, inv_see (o := .lst ys) J3 bh ga n1 ⟨lny, _, c, vy, hD⟩, rfl, hF a ys z' t eo n1 ry⟩
end

/-! ### a def's name as a key -/
theorem PKey.fn {X : Cx} {k : Nat} {x : Str} {ps : List Str} {Wf : WP} {p : Pos} (F : OkP X.prog X.w X.K X.mg X.base k (x, none) ps Wf) (hp : ps.length = 1) (hr : Room (k + 2) X.A) (hm : X.mg x = some (.ref (He.ga X.K x))) (hg : Gl X x := by rfl) (hdb : (x == ("__debug__" : Str)) = false := by decide) : PKey X (.Name x p) (kwF Wf) := by
  refine ⟨fun pins s σ z ρ I ok r => ld_glob I hg hm ?_ hdb⟩
  obtain ⟨fd, F1, F2, _⟩ := F
  have calls : ∀ A' : Around, Room k A' → A'.frames = X.A.frames → CallsTo X pins σ ρ (kwF Wf) A' (He.ga X.K x) fun _ => True := by
    intro A' hA hfr z2 s2 v u d Φ E' I2 ok2 r2 _ rd ru hk
    have e0 := I2.env0
    have hb := F2 s2 [u] I2.kIn (by rw [List.append_nil]; exact hp.symm)
    rw [List.append_nil] at hb
    refine wpAny_call (codeAny_mono (F1.run A' X.stack s2 z2.h ⟨[u], []⟩ [u] [v] (fun v' H' => ∃ z' d', z'.h = H' ∧ To X.K z2 z' ∧ Rep X.K z'.d v' d' ∧ Φ d' z'.o) (fun _ _ _ => False) hA ⟨hfr.trans e0.frames, e0.mod, e0.bs, e0.bsz, e0.funs, e0.frf, e0.hok, e0.bare⟩ hb (.cons ru .nil) ⟨z2, [d], Φ, rfl, ok2, .cons rd .nil, hk, fun v' z' d' t' r' h' => ⟨z', d', rfl, t', r', h'⟩⟩) fun r s' hq => ?_)
    cases r with
    | error e => exact False.elim hq
    | ok fl =>
      cases fl with
      | ret u => exact hq
      | next => exact False.elim hq
      | brk => exact False.elim hq
      | cont => exact False.elim hq
  exact ⟨_, z, fun _ => True, rfl, ok.to, rfl, I, trivial, fun _ _ _ _ _ => trivial, calls _ (Room.mono hr.in1 (by omega)) rfl, calls _ hr.in1.in1 rfl⟩
theorem sorted_end {K : Fg} {z z1 z3 : Z} {own : Bool} {a : Addr} {ys : List V} {out : List D} {Φ : D → Om → Prop} {Q : VK} (t : To K z z3) (eo : z3.o = z1.o) (na : z3.h a = none) (ry : RepL K z3.d ys out) (h : if own = true then ∀ a, z1.o a = none → Φ (.ref a) (z1.o.set a (.lst out)) else Φ (.lst out) z1.o)
    (q : ∀ v z2 d, To K z z2 → Rep K z2.d v d → Φ d z2.o → Q v z2.h) : Q (.ref a) (upd z3.h a (.lst ys)) := by
  cases own with
  | true =>
    rw [if_pos rfl] at h
    have fr := t.ok.free na
    have l := t.ok.lay (o := .lst ys) (c := .lst out) na ⟨ys, upd_same, ry⟩
    exact q (.ref a) _ (.ref a) (t.trans l) (.ref a) (by show Φ _ (z3.o.set a _); rw [eo]; exact h a (by rw [← eo]; exact fr.2))
  | false =>
    rw [if_neg Bool.false_ne_true] at h
    have l := t.ok.add (o := .lst ys) na
    exact q (.ref a) _ (.lst out) (t.trans l) (.lst upd_same (ry.mono l.ex)) (by show Φ _ z3.o; rw [eo]; exact h)
/-! ### max, min by a key -/
def itV (x : D) (F : List D → Prop) : Prop := match x with
  | .lst ds => F ds
  | _ => False
def one1 (xs : List D) (F : D → Prop) : Prop := match xs with
  | [x] => F x
  | _ => False
theorem one1_iff {xs : List D} {F : D → Prop} : one1 xs F ↔ ∃ x, xs = [x] ∧ F x := by
  unfold one1
  split
  · simp
  · rename_i h
    exact ⟨fun z => z.elim, fun ⟨x, e, _⟩ => absurd e (h x)⟩
def bSel {K : Fg} (mx : Bool) (A : BA K) (kw : KW) : BE K := BE.ofW fun ρ ω Φ Ψ => A.w ρ ω (fun xs ω1 => one1 xs fun x => itV x fun ds => (ds = [] → Φ .non ω1) ∧ (ds ≠ [] → selW mx kw ρ ds ω1 Φ)) Ψ
def bSortK {K : Fg} (own rev : Bool) (A : BA K) (kw : KW) : BE K := BE.ofW fun ρ ω Φ Ψ => A.w ρ ω (fun xs ω1 => one1 xs fun x => optW (lstOf ω1 x) fun ds => sortW rev kw ρ ds ω1 fun out => if own = true then ∀ a, ω1 a = none → Φ (.ref a) (ω1.set a (.lst out)) else Φ (.lst out) ω1) Ψ
section
variable {X : Cx} {W : WX} {A : BA X.K} {kw : KW} {ke e : Expr} {p pos kp kp2 cp : Pos} {x : Str}
theorem P_sel {k : Nat} (mx : Bool) {j : Nat} (hk : PKey X ke kw) (hm : X.mg x = none) (hv : bootBuiltins x = some (.builtin (if mx then "max" else "min"))) (ha : PA X [e] (A.t W)) (hr : Room k X.A) (hc : X.calm = true := by rfl) (hg : Gl X x := by rfl) (hn : x ≠ "__name__" := by decide) (hdb : (x == ("__debug__" : Str)) = false := by decide)
    (he : backTo pos (starEach [e] X.env) = (false, eval e X.env) :: backTo pos (starEach [] X.env) := by rfl) (hpl : (backTo pos (starEach [e] X.env)).any (·.1) = false := by rfl) :
    PE X (.Call (.Name x p) [e] [⟨some "key", ke, kp⟩, ⟨some "default", .Constant .none j cp, kp2⟩] pos) ((bSel mx A kw).t W) := by
  refine ⟨fun pins s σ H Q I ⟨z, ρ, Φ, Ψ, hz, hw, ok, r, q, qx⟩ => ?_⟩
  subst hz
  refine wpAny_Call_Name_kw (ld_blt I hg hm hv ?_ hn hdb)
  have hargs := ha.run pos pins s σ z.h (fun vs H1 => ∃ v z1 d, vs = [v] ∧ z1.h = H1 ∧ To X.K z z1 ∧ Rep X.K z1.d v d ∧ itV d fun ds => (ds = [] → Φ .non z1.o) ∧ (ds ≠ [] → selW mx kw ρ ds z1.o Φ)) I
    (A.ok W ρ z σ _ _ Ψ hw ok r (fun vs z1 ds t1 r1 h1 => by
      obtain ⟨d, rfl, h2⟩ := one1_iff.mp h1
      obtain ⟨v, rfl, r2⟩ := rep1 r1
      exact ⟨v, z1, d, rfl, rfl, t1, r2, h2⟩) qx)
  refine PyProof.Rows.callWith_kw (thn hargs ?_) he hpl (by rfl) (by rfl)
  rintro us s1 ⟨vs, H1, I1, rv, v, z1, d, rfl, rfl, t1, rd, hd⟩
  cases rv with
  | cons ru rn =>
  cases rn
  refine wpAny_evalAll_cons (wpAny_bind (thn (hk.run pins s1 σ z1 ρ I1 t1.ok (r.mono t1.ex)) ?_))
  rintro _ s2 ⟨f, z2, G, rfl, t2, eo, I2, g, hG, C1, _⟩
  refine wpAny_bind (wpAny_standAt (wpAny_pure ?_))
  refine wpAny_evalAll_cons (wpAny_bind (thn ((P_non (W := W) (pos := cp) (j := j)).run pins s2 σ z2.h (fun v H => v = .non ∧ H = z2.h) I2 ⟨rfl, rfl⟩) ?_))
  rintro un s3 ⟨_, _, I3, rn, rfl, rfl⟩
  refine wpAny_bind (wpAny_standAt (wpAny_pure (wpAny_evalAll_nil ?_)))
  obtain ⟨ds, rfl, h0, h1⟩ : ∃ ds, d = .lst ds ∧ (ds = [] → Φ .non z1.o) ∧ (ds ≠ [] → selW mx kw ρ ds z1.o Φ) := by
    cases d with
    | lst ds => exact ⟨ds, rfl, hd⟩
    | _ => exact hd.elim
  have t12 := t1.trans t2
  exact sel_run mx (I3.ok.hd hc) (by have := hr.un; omega) I3 t2.ok (r.mono t12.ex) hG g C1 (rd.mono t2.ex) ru (.non) rn (fun c => by rw [eo]; exact h0 c) (fun c => by rw [eo]; exact h1 c) fun v z3 d t3 => q v z3 d (t12.trans t3)
theorem boot_sorted_ : bootBuiltins "sorted" = some (.builtin "sorted") := by decide +kernel
theorem P_sortK {k : Nat} {own : Bool} (hk : PKey X ke kw) (hm : X.mg "sorted" = none) (ha : PA X [e] (A.t W)) (hr : Room k X.A) (hg : Gl X "sorted" := by rfl)
    (he : backTo pos (starEach [e] X.env) = (false, eval e X.env) :: backTo pos (starEach [] X.env) := by rfl) (hpl : (backTo pos (starEach [e] X.env)).any (·.1) = false := by rfl) :
    PE X (.Call (.Name "sorted" p) [e] [⟨some "key", ke, kp⟩] pos) ((bSortK own false A kw).t W) := by
  refine ⟨fun pins s σ H Q I ⟨z, ρ, Φ, Ψ, hz, hw, ok, r, q, qx⟩ => ?_⟩
  subst hz
  refine wpAny_Call_Name_kw (ld_blt I hg hm boot_sorted_ ?_ (by decide) (by decide))
  have hargs := ha.run pos pins s σ z.h (fun vs H1 => ∃ v z1 d ds, vs = [v] ∧ z1.h = H1 ∧ To X.K z z1 ∧ Rep X.K z1.d v d ∧ lstOf z1.o d = some ds ∧ sortW false kw ρ ds z1.o fun out => if own = true then ∀ a, z1.o a = none → Φ (.ref a) (z1.o.set a (.lst out)) else Φ (.lst out) z1.o) I
    (A.ok W ρ z σ _ _ Ψ hw ok r (fun vs z1 xs t1 r1 h1 => by
      obtain ⟨d, rfl, h2⟩ := one1_iff.mp h1
      obtain ⟨v, rfl, r2⟩ := rep1 r1
      obtain ⟨ds, h2, h3⟩ := optW_iff.mp h2
      exact ⟨v, z1, d, ds, rfl, rfl, t1, r2, h2, h3⟩) qx)
  refine PyProof.Rows.callWith_kw (thn hargs ?_) he hpl (by rfl) (by rfl)
  rintro us s1 ⟨vs, H1, I1, rv, v, z1, d, ds, rfl, rfl, t1, rd, hd, hs⟩
  cases rv with
  | cons ru rn =>
  cases rn
  refine wpAny_evalAll_cons (wpAny_bind (thn (hk.run pins s1 σ z1 ρ I1 t1.ok (r.mono t1.ex)) ?_))
  rintro _ s2 ⟨f, z2, G, rfl, t2, eo, I2, g, hG, _, C2⟩
  refine wpAny_bind (wpAny_standAt (wpAny_pure (wpAny_evalAll_nil ?_)))
  have t12 := t1.trans t2
  refine sort_run false (by have := hr.un; omega) I2 t2.ok (r.mono t12.ex) hG g C2 (rd.mono t2.ex) ru (by rw [eo]; exact hd) (fun l => ksk_s1 _ _) (fun l => ksk_l1 _ _) (fun a => ksk_t1 _ _) ?_
  rw [eo]
  obtain ⟨k, h1, h2, h3, h4⟩ := hs
  exact ⟨k, h1, h2, h3, fun a ys z3 t3 eo3 na ry => sorted_end (own := own) (t12.trans t3) eo3 na ry h4 q⟩
theorem P_sortRK {k : Nat} {own : Bool} {j : Nat} (hk : PKey X ke kw) (hm : X.mg "sorted" = none) (ha : PA X [e] (A.t W)) (hr : Room k X.A) (hg : Gl X "sorted" := by rfl)
    (he : backTo pos (starEach [e] X.env) = (false, eval e X.env) :: backTo pos (starEach [] X.env) := by rfl) (hpl : (backTo pos (starEach [e] X.env)).any (·.1) = false := by rfl) :
    PE X (.Call (.Name "sorted" p) [e] [⟨some "reverse", .Constant (.bool true) j cp, kp2⟩, ⟨some "key", ke, kp⟩] pos) ((bSortK own true A kw).t W) := by
  refine ⟨fun pins s σ H Q I ⟨z, ρ, Φ, Ψ, hz, hw, ok, r, q, qx⟩ => ?_⟩
  subst hz
  refine wpAny_Call_Name_kw (ld_blt I hg hm boot_sorted_ ?_ (by decide) (by decide))
  have hargs := ha.run pos pins s σ z.h (fun vs H1 => ∃ v z1 d ds, vs = [v] ∧ z1.h = H1 ∧ To X.K z z1 ∧ Rep X.K z1.d v d ∧ lstOf z1.o d = some ds ∧ sortW true kw ρ ds z1.o fun out => if own = true then ∀ a, z1.o a = none → Φ (.ref a) (z1.o.set a (.lst out)) else Φ (.lst out) z1.o) I
    (A.ok W ρ z σ _ _ Ψ hw ok r (fun vs z1 xs t1 r1 h1 => by
      obtain ⟨d, rfl, h2⟩ := one1_iff.mp h1
      obtain ⟨v, rfl, r2⟩ := rep1 r1
      obtain ⟨ds, h2, h3⟩ := optW_iff.mp h2
      exact ⟨v, z1, d, ds, rfl, rfl, t1, r2, h2, h3⟩) qx)
  refine PyProof.Rows.callWith_kw (thn hargs ?_) he hpl (by rfl) (by rfl)
  rintro us s1 ⟨vs, H1, I1, rv, v, z1, d, ds, rfl, rfl, t1, rd, hd, hs⟩
  cases rv with
  | cons ru rn =>
  cases rn
  refine wpAny_evalAll_cons (wpAny_bind (thn ((P_bl (i := true) (W := W) (pos := cp) (j := j)).run pins s1 σ z1.h (fun v H => v = .bl true ∧ H = z1.h) I1 ⟨rfl, rfl⟩) ?_))
  rintro ub s1' ⟨_, _, I1', rb, rfl, rfl⟩
  obtain rfl : ub = .bool true := rb
  refine wpAny_bind (wpAny_standAt (wpAny_pure ?_))
  refine wpAny_evalAll_cons (wpAny_bind (thn (hk.run pins s1' σ z1 ρ I1' t1.ok (r.mono t1.ex)) ?_))
  rintro _ s2 ⟨f, z2, G, rfl, t2, eo, I2, g, hG, _, C2⟩
  refine wpAny_bind (wpAny_standAt (wpAny_pure (wpAny_evalAll_nil ?_)))
  have t12 := t1.trans t2
  refine sort_run true (by have := hr.un; omega) I2 t2.ok (r.mono t12.ex) hG g C2 (rd.mono t2.ex) ru (by rw [eo]; exact hd) (fun l => ksk_s3 _ _ _) (fun l => ksk_l3 _ _ _) (fun a => ksk_t3 _ _ _) ?_
  rw [eo]
  obtain ⟨k, h1, h2, h3, h4⟩ := hs
  exact ⟨k, h1, h2, h3, fun a ys z3 t3 eo3 na ry => sorted_end (own := own) (t12.trans t3) eo3 na ry h4 q⟩
end

/-! ### as equations -/
section
variable {K : Fg} {ρ : En} {ω : Om} {Φ : D → Om → Prop} {Ψ : Exn → Om → Prop} {As : BA K} {B : BE K} {kw : KW} {d : D} {ds : List D} {F : List D → Prop} {F1 : D → Prop} {u : Option D} {r : En} {n : Nat} {js : List Nat}
theorem x_sel {mx : Bool} : (bSel mx As kw).w ρ ω Φ Ψ = As.w ρ ω (fun xs ω1 => one1 xs fun x => itV x fun ds => (ds = [] → Φ .non ω1) ∧ (ds ≠ [] → selW mx kw ρ ds ω1 Φ)) Ψ := rfl
theorem x_sortKF {rev : Bool} : (bSortK false rev As kw).w ρ ω Φ Ψ = As.w ρ ω (fun xs ω1 => one1 xs fun x => optW (lstOf ω1 x) fun ds => sortW rev kw ρ ds ω1 fun out => Φ (.lst out) ω1) Ψ := rfl
theorem x_sortKT {rev : Bool} : (bSortK true rev As kw).w ρ ω Φ Ψ = As.w ρ ω (fun xs ω1 => one1 xs fun x => optW (lstOf ω1 x) fun ds => sortW rev kw ρ ds ω1 fun out => ∀ a, ω1 a = none → Φ (.ref a) (ω1.set a (.lst out))) Ψ := rfl
theorem x_one1 : one1 [d] F1 = F1 d := rfl
theorem x_itV : itV (.lst ds) F = F ds := rfl
theorem x_kwL : kwL B n js ρ d ω Φ = B.w (kEnv n js ρ d) ω Φ X0 := rfl
theorem x_kwF {W : WP} : kwF W ρ d ω Φ = W [d] ω Φ := rfl
theorem x_kEnv : kEnv n js ρ d = some d :: (js.map (varO ρ) ++ List.replicate (n - 1 - js.length) none) := rfl
theorem x_vo0 : varO (u :: r) 0 = u := rfl
theorem x_vo1 : varO (u :: r) (n + 1) = varO r n := rfl
end
/-! ### keys of a text and a number -/
theorem toPy_two {s : List Nat} {i : Int} : toPy (.tup [.str s, .int i]) = .tuple [.str ⟨s.toArray⟩, .int i] := by simp [toPy, toPyL]
theorem itemLt_str (s t : List Nat) : PyProof.Rows.itemOrd.blt (.inr s) (.inr t) = ltS s t := by
  show PyProof.Rows.strKind.blt s t = decide (s < t)
  first | rfl | (simp [PyProof.Rows.strKind]; done)
theorem toks_two (s : List Nat) (i : Int) : PySem.W.keyToks (toPy (.tup [.str s, .int i])) = [.inl 1, .inr s, .inl 1, .inl i, .inl 0] := by
  rw [toPy_two]
  simp [PySem.W.keyToks, PySem.W.keyToksAll]
/-- by the text, of one text by the number -/
def lt2 (s : List Nat) (i : Int) (t : List Nat) (j : Int) : Bool := ltS s t || (!ltS t s && decide (i < j))
theorem dlt_two (s t : List Nat) (i j : Int) : dlt (.tup [.str s, .int i]) (.tup [.str t, .int j]) = lt2 s i t j := by
  unfold dlt PySem.W.dataLt lt2
  rw [toks_two, toks_two, PyProof.Rows.lex_self, PyProof.Rows.lex_cons, PyProof.Rows.lex_self, PyProof.Rows.lex_cons, PyProof.Rows.lex_irrefl, itemLt_str, itemLt_str]
  have e : PyProof.Rows.itemOrd.blt (.inl i) (.inl j) = decide (i < j) := rfl
  rw [e]
  simp
theorem dlt_int (i j : Int) : dlt (.int i) (.int j) = decide (i < j) := PySem.W.dataLt_int i j
theorem alk_int (i j : Int) : alk (.int i) (.int j) = true := by simp [alk, toPy, PySem.W.alike]
theorem alk_two (s t : List Nat) (i j : Int) : alk (.tup [.str s, .int i]) (.tup [.str t, .int j]) = true := by simp [alk, toPy, toPyL, PySem.W.alike, PySem.W.alikeAll]
theorem keyOk_int (i : Int) : KeyOk (.int i) := ⟨rfl, Nat.zero_le _, rfl⟩
theorem keyOk_two {s : List Nat} (h : s.all (· < 0x110000) = true) (i : Int) : KeyOk (.tup [.str s, .int i]) := ⟨by simp [eqD, eqDL]; simpa using h, by simp [dpt, dptL], rfl⟩
theorem leK_eq (rev : Bool) (k : D → D) (a b : D) : leK rev k a b = !(if rev then dlt (k a) (k b) else dlt (k b) (k a)) := by
  unfold leK
  rw [PySem.W.dataLe_eq]
  cases rev <;> rfl
/-- what stands in order by a key is what sorted leaves, where things of one key are one -/
theorem sorted_is {rev : Bool} {k : D → D} {a l : List D} (hp : a.Perm l) (ho : a.Pairwise fun x y => leK rev k x y = true) (one : ∀ x ∈ l, ∀ y ∈ l, leK rev k x y = true → leK rev k y x = true → x = y) : l.mergeSort (leK rev k) = a := by
  have tot : ∀ x y : D, (leK rev k x y || leK rev k y x) = true := fun x y => by
    rw [leK_eq, leK_eq]
    have asym : ∀ p q : D, dlt p q = true → dlt q p = false := fun p q h => by
      cases e : dlt q p with
      | false => rfl
      | true =>
        unfold dlt PySem.W.dataLt at h e
        have := (PyProof.Rows.listOrd PyProof.Rows.itemOrd).trans _ _ _ h e
        rw [(PyProof.Rows.listOrd PyProof.Rows.itemOrd).irrefl] at this; exact this.symm
    cases rev
    · cases e : dlt (k y) (k x) with
      | false => simp [e]
      | true => simp [asym _ _ e]
    · cases e : dlt (k x) (k y) with
      | false => simp [e]
      | true => simp [asym _ _ e]
  have tra : ∀ x y w : D, leK rev k x y = true → leK rev k y w = true → leK rev k x w = true := fun x y w h1 h2 => by
    rw [leK_eq] at h1 h2 ⊢
    have neg : ∀ p q r : D, dlt p r = true → dlt p q = true ∨ dlt q r = true := fun p q r h => (PyProof.Rows.listOrd PyProof.Rows.itemOrd).negTrans _ _ _ h
    cases rev
    · simp only [Bool.false_eq_true, if_false, Bool.not_eq_true'] at h1 h2 ⊢
      cases e : dlt (k w) (k x) with
      | false => rfl
      | true => rcases neg _ (k y) _ e with q | q <;> simp_all
    · simp only [if_true, Bool.not_eq_true'] at h1 h2 ⊢
      cases e : dlt (k x) (k w) with
      | false => rfl
      | true => rcases neg _ (k y) _ e with q | q <;> simp_all
  have hs := List.pairwise_mergeSort (le := leK rev k) tra tot l
  exact List.Perm.eq_of_pairwise (fun x y hx hy h1 h2 => one x (List.mem_mergeSort.mp hx) y (hp.mem_iff.mp hy) h1 h2) hs ho ((List.mergeSort_perm l _).trans hp.symm)
section
variable {K : Fg} {ω : Om} {Φ : D → Om → Prop}
theorem lst_two {L : D} {ds : List D} (h : lstOf ω L = some ds) : L = .lst ds ∨ ∃ a, L = .ref a ∧ ω a = some (.lst ds) := by
  cases L with
  | lst es => left; simp [lstOf] at h; rw [h]
  | ref a => right; exact ⟨a, rfl, lstOf_ref.mp h⟩
  | _ => simp [lstOf] at h
theorem it_any {L : D} {ds : List D} {F : List D → (Om → Prop) → Om → Prop} (h : lstOf ω L = some ds) (q : ∀ chk : Om → Prop, chk ω → F ds chk ω) : itemsW L ω F := by
  rcases lst_two h with rfl | ⟨a, rfl, ha⟩
  · exact q _ trivial
  · exact ⟨ds, ha, q _ ha⟩
theorem len_any {L : D} {ds : List D} (h : lstOf ω L = some ds) : (cLen : CB K).w [L] ω Φ = Φ (.int (ds.length : Nat)) ω := by
  rcases lst_two h with rfl | ⟨a, rfl, ha⟩
  · exact x_lenL
  · rw [x_lenR, ha]; rfl
end
/-! ### xs[::-1] -/
def bRevL {K : Fg} (own : Bool) (A : BE K) : BE K where
  t := fun W => tRevL K (A.t W)
  w := fun ρ ω Φ Ψ => A.w ρ ω (fun x ω1 => optW (lstOf ω1 x) fun ds => if own = true then ∀ a, ω1 a = none → Φ (.ref a) (ω1.set a (.lst ds.reverse)) else Φ (.lst ds.reverse) ω1) Ψ
  ok := fun W ρ z σ Q Φ Ψ h k r q qx => by
    refine A.ok W ρ z σ _ _ Ψ h k r (fun x z1 d t1 r1 h1 => ?_) qx
    obtain ⟨ds, h2, h3⟩ := optW_iff.mp h1
    obtain ⟨a, xs, rfl, hs, rx⟩ := lstOf_seq t1.ok r1 h2
    exact ⟨a, xs, rfl, hs, fun p hp => sorted_end (own := own) (z1 := z1) t1 rfl hp rx.reverse h3 q⟩
theorem P_revL {X : Cx} {W : WX} {own : Bool} {A : BE X.K} {e : Expr} {k : Nat} {p1 p2 p3 pos : Pos} (h : PE X e (A.t W)) : PE X (.Subscript e (.Slice none none (some (.UnaryOp .USub (.Constant (.int 1) k p1) p2)) p3) pos) ((bRevL own A).t W) := pe_revL h
section
variable {K : Fg} {ρ : En} {ω : Om} {Φ : D → Om → Prop} {Ψ : Exn → Om → Prop} {A : BE K}
theorem x_revLF : (bRevL false A).w ρ ω Φ Ψ = A.w ρ ω (fun x ω1 => optW (lstOf ω1 x) fun ds => Φ (.lst ds.reverse) ω1) Ψ := rfl
theorem x_revLT : (bRevL true A).w ρ ω Φ Ψ = A.w ρ ω (fun x ω1 => optW (lstOf ω1 x) fun ds => ∀ a, ω1 a = none → Φ (.ref a) (ω1.set a (.lst ds.reverse))) Ψ := rfl
end
/-! ### small things -/
theorem rng0 {n i : Nat} {d : D} (h : (rngD 0 n)[i]? = some d) : i < n ∧ d = .int ((i : Nat) : Int) := by
  unfold rngD at h
  rw [List.getElem?_map, Option.map_eq_some_iff] at h
  obtain ⟨j, hj, rfl⟩ := h
  obtain ⟨h1, h2⟩ := List.getElem?_eq_some_iff.mp hj
  rw [List.length_range] at h1
  rw [List.getElem_range] at h2
  subst h2
  exact ⟨h1, by rw [Int.zero_add]⟩
theorem num_figs (n : Nat) : (TL.numL n).all isFig = true := List.all_eq_true.mpr fun c hc => by
  have := TL.numL_digits n c hc
  unfold isFig
  simpa using this
theorem strI_figs {i : Int} (h : 0 ≤ i) : (strI i).all isFig = true := by rw [strI_nn h]; exact num_figs _
end T

/-! Functions made by a def and told: their making, their call. -/
namespace T
open PySem PySem.Spec PyProof.Rows L2 LamX NdefX
theorem fnO_nt {f : Addr} {F : NF} : NT (FnO f F) := fun ps z => by unfold FnO at z; cases z
theorem cellO_nt {c : Addr} {v : V} : NT (CellO c v) := fun ps z => by unfold CellO at z; cases z
section
variable {P : Program} {w : World} {K : Fg} {mg : Str → Option Value} {base : Heap}
/-- what a cell holds is told from now on -/
theorem hok_cell {H : Hp} {h : Heap} {cc : Addr} {v : V} {u : Value} (x : HOk P w H h) (n : H cc = none) (r : RelV v u) (c : h.IsCell cc (some u)) : HOk P w (upd H cc (CellO cc v)) h := fun b o e => by
  by_cases q : b = cc
  · subst q
    rw [upd_same] at e; cases e
    obtain ⟨oc, h1, h2⟩ := id c
    exact ⟨⟨u, r, c⟩, ⟨_, h1⟩, fun _ _ ⟨u', r', oc', k1, k2⟩ st => ⟨u', r', oc', st _ k1, k2⟩⟩
  · rw [upd_ne q] at e
    exact (x b o e).stay (fun _ _ _ z => z) (fun d z => (upd_ne (ne_of_none z n)).trans z) fun d xs z => (upd_ne (ne_of_none z n)).trans z
/-- the function, its code object, its cell: from now on they stay -/
theorem clo_to {z : Z} {H1 : Hp} {f c' cc : Addr} {F : NF} {q : Str} {v : V} (k : z.Ok K) (eN : ExtN z.h H1) (nn : ∀ b, H1 b = none → z.h b = none) (T1 : TabsN (tabsN K) H1) (f0 : z.h f = none) (f1 : H1 f = some (FnO f F)) (c1 : H1 c' = some (CodeO c' q)) (ne : c' ≠ f) (cc0 : H1 cc = none) :
    To K z ⟨upd (upd (upd z.d c' (CodeO c' q)) f (FnO f F)) cc (CellO cc v), upd H1 cc (CellO cc v), z.o, z.t⟩ ∧ upd (upd (upd z.d c' (CodeO c' q)) f (FnO f F)) cc (CellO cc v) f = some (FnO f F) ∧ upd (upd (upd z.d c' (CodeO c' q)) f (FnO f F)) cc (CellO cc v) c' = some (CodeO c' q) := by
  have hc0 : z.h cc = none := nn cc cc0
  have n1 : f ≠ cc := fun e => by rw [e, cc0] at f1; cases f1
  have n2 : c' ≠ cc := fun e => by rw [e, cc0] at c1; cases c1
  have up : ∀ b o, z.h b = some o → NT o → upd H1 cc (CellO cc v) b = some o := fun b o e nt => (upd_ne (ne_of_none e hc0)).trans (eN b o e nt)
  have cell0 : ∀ a c, z.o a = some c → a ≠ f ∧ a ≠ cc ∧ a ≠ c' := fun a c e => by
    obtain ⟨_, r⟩ := k.cell a c e
    obtain ⟨o, ho⟩ := r.some
    refine ⟨ne_of_none ho f0, ne_of_none ho hc0, fun z => ?_⟩
    obtain ⟨p1, p2⟩ := repC_plain r ho
    have := eN a o ho p1
    rw [z, c1] at this
    exact p2 _ _ (Option.some.inj this).symm
  have df : z.d f = none := (k.free f0).1
  have dc : z.d cc = none := (k.free hc0).1
  have ex : Exd z.d (upd (upd (upd z.d c' (CodeO c' q)) f (FnO f F)) cc (CellO cc v)) := fun a o e => by
    rw [upd_ne (ne_of_none e dc), upd_ne (ne_of_none e df)]
    by_cases g : a = c'
    · subst g
      rw [upd_same, ← c1]
      exact eN a o (k.fz a o e) (k.nd a o e)
    · rw [upd_ne g]; exact e
  refine ⟨⟨⟨fun a u e => ?_, fun a c e => ?_, T1.ext (fun b o e => (upd_ne (ne_of_none e cc0)).trans e) |> (k.tk ▸ ·), k.tk, nd_upd (nd_upd (nd_upd k.nd codeO_nt) fnO_nt) cellO_nt⟩, ex, fun a o e _ nt => up a o e nt, fun a h => ?_, rfl, fun a e => .inl e, fun a e => ?_⟩, ?_, ?_⟩
  · have e : upd (upd (upd z.d c' (CodeO c' q)) f (FnO f F)) cc (CellO cc v) a = some u := e
    show upd H1 cc (CellO cc v) a = some u
    by_cases g : a = cc
    · subst g; rw [upd_same] at e ⊢; exact e
    · rw [upd_ne g] at e
      rw [upd_ne g]
      by_cases g2 : a = f
      · subst g2; rw [upd_same] at e; rw [f1]; exact e
      · rw [upd_ne g2] at e
        by_cases g3 : a = c'
        · subst g3; rw [upd_same] at e; rw [c1]; exact e
        · rw [upd_ne g3] at e
          exact eN a u (k.fz a u e) (k.nd a u e)
  · obtain ⟨m1, m2, m3⟩ := cell0 a c e
    obtain ⟨r1, r2⟩ := k.cell a c e
    refine ⟨?_, r2.mono ex fun o ho => up a o ho (repC_plain r2 ho).1⟩
    show upd (upd (upd z.d c' (CodeO c' q)) f (FnO f F)) cc (CellO cc v) a = none
    rw [upd_ne m2, upd_ne m1, upd_ne m3]
    exact r1
  · exact upd_kept a (fun e => h (nn a e))
  · by_cases g : a = cc
    · subst g; exact .inr (.inl hc0)
    · have e : upd (upd (upd z.d c' (CodeO c' q)) f (FnO f F)) cc (CellO cc v) a ≠ none := e
      rw [upd_ne g] at e
      by_cases g2 : a = f
      · subst g2; exact .inr (.inl f0)
      · rw [upd_ne g2] at e
        by_cases g3 : a = c'
        · subst g3
          cases h0 : z.h a with
          | none => exact .inr (.inl rfl)
          | some o =>
            refine .inr (.inr (.inr ⟨o, rfl, fun xs hx => ?_⟩))
            have := eN a o h0 (fun ps w => by rw [hx] at w; cases w)
            rw [c1, hx] at this
            unfold CodeO at this; cases this
        · rw [upd_ne g3] at e; exact .inl e
  · rw [upd_ne n1, upd_same]
  · rw [upd_ne n2, upd_ne ne, upd_same]
/-- the contract of a def that makes a function and tells it -/
def WClo (tag : Str) : WP := fun ds ω Φ => ∃ d, ds = [d] ∧ Φ (.clo tag d) ω
theorem fnPClo {name qual : Str} {st : Stmt} {tag x nm : Str} {k : Nat} {tf : List He.Defn} (tk : TabK K tf) (tb : TabsB base mg K tf) (hp : (tag, none) ∈ tf) (F : FnD K name qual st [] (tag, none)) (S : FnScope [x, nm] [x] (defScope st))
    {pa : Arguments} {bo : List Stmt} {sc : Scope} {p3 p4 p5 : Pos} (hbd : defBody st = [.FunctionDef nm pa bo [] none [] sc none nm p3, .Return (some (.Name nm p4)) p5])
    (hbi : ∀ (kV doc pm : Value) (an : Option Addr) (cdv ct : Value) (us : List Value), us.length = [x].length → bindArgs (PySem.W.fnOf name qual (defArgs st) (defBody st) (defScope st) .none kV doc pm an cdv ct) ⟨us, []⟩ = pure ([x].zip us))
    (hnd : ndefB (defScope st) sc [x] = true) (hclo : ∀ (cells : List (Str × Addr)) (c : Addr), cells.lookup x = some c → cloFrom cells sc.names [] = [(x, c)]) (hd0 : pa.defaults = []) (hk0 : pa.kw_defaults = []) (ha : ∀ env, annTrees pa none env = []) (hnm : (defScope st).names.lookup nm = some .local)
    (hdb : (nm == ("__debug__" : Str)) = false) (hcd : (nm == ("__classdict__" : Str)) = false) : OkP P w K mg base (k + 1) (tag, none) [x] (WClo tag) := by
  obtain ⟨fd, F⟩ := F
  have lk : ∃ oc od osl, K.lookup (He.fAd K (tag, none)) = some ⟨oc, od, .func fd, osl⟩ := by
    obtain ⟨oc, od, _, _, _, _, _, _, _, osl, _, h, _⟩ := F.ex
    exact ⟨oc, od, osl, h⟩
  have F0 := F
  obtain ⟨oc, od, dV, kV, doc, pm, an, cdv, ct, osl, rfl, lk2, hcode, _, _⟩ := F.ex
  obtain ⟨c, rfl⟩ := He.codeIn_ref hcode
  have ec : He.codeOf K (tag, none) = c := He.codeOf_eq lk2 rfl
  have h1 := tk.hd _ hp
  have h2 := tk.out _ hp
  have h3 := tb _ hp
  simp only [He.cT, ec] at h1 h2 h3
  have hin : innerOf (defBody st) = nm := by rw [hbd]; rfl
  have hmem : (He.tabOf K c, qual ++ ".<locals>." ++ nm) ∈ tabsOf K := by
    refine List.mem_filterMap.mpr ⟨_, mem_of_look lk2, ?_⟩
    show (if PySem.W.codeHdIn K c (He.tabOf K c) && (K.lookup (He.tabOf K c)).isNone then some (He.tabOf K c, qual ++ ".<locals>." ++ innerOf (defBody st)) else none) = _
    rw [h1, h2, hin]; rfl
  refine ⟨_, ⟨fun vs H Q E h => ?_, fun A outer s H args us vs Q E hr e0 hb r hsp => ?_⟩, F0.bindsN hbi, lk⟩
  · obtain ⟨z, ds', Φ, _, _, rr, ⟨d, rfl, _⟩, _⟩ := h
    exact rr.length
  obtain ⟨z, ds', Φ, rfl, zok, rr, ⟨d, rfl, hΦ⟩, q⟩ := hsp
  obtain ⟨v0, rfl, rv0⟩ : ∃ v0, vs = [v0] ∧ Rep K z.d v0 d := by
    cases rr with
    | cons h t => cases t; exact ⟨_, rfl, h⟩
  obtain ⟨u0, rfl, ru0⟩ : ∃ u0, us = [u0] ∧ RelV v0 u0 := by
    cases r with
    | cons h t => cases t; exact ⟨_, rfl, h⟩
  have KX : K.In s.heap := e0.mod.kin.keeps fun b o e => (e0.bs b o e).1
  have lim : s.heap.NoLimit := e0.mod.nolimit.keeps fun b o e => (e0.bs b o e).1
  have hk : ∀ y ∈ [x].zip [u0], (defScope st).names.lookup y.1 = some .local ∨ ((defScope st).names.lookup y.1 = some .cell ∧ ((cellsFrom (s.heap.objs.size + 1) (defScope st).names []).lookup y.1).isSome = true) := fun y hy =>
    (S.par y.1 (List.of_mem_zip hy).1).imp id fun g => ⟨g, PySem.W.cellsFrom_some _ _ _ (.inl g)⟩
  refine codeAny_call_function hr.depth (KX _ _ lk2) rfl S.co S.gen rfl (PySem.W.codeRec_of KX hcode) (hb _ _ _ _ ?_)
  refine wpAny_newFunctionEnv_cells S.kind hk fun env he s1 x1 => ?_
  subst he
  refine ⟨lim.keeps x1.toInCall.keep, codeAny_func ?_⟩
  have I : Inv (cxOf CX0 P w K mg base [x, nm] qual (defScope st) (He.fAd K (tag, none)) (.ref c) A outer s z.h E) [] (L2.start [x, nm] [v0]) z.h s1 := inv_start S hr.hd e0 rfl r x1
  have hN : [x, nm].Nodup := S.nd
  rw [hbd]
  have hTz : TabsN (tabsN K) z.h := zok.tk ▸ zok.tab
  refine wpAny_execs_cons (thn ((ps_ndefM (X := cxOf CX0 P w K mg base [x, nm] qual (defScope st) (He.fAd K (tag, none)) (.ref c) A outer s z.h E) (T := tabsN K) (nm := fun _ _ => qual ++ ".<locals>." ++ nm) (c := c) (P := He.tabOf K c) (i := 1) h3 rfl (List.mem_map.mpr ⟨_, hmem, rfl⟩) rfl (fun p hp' e => ?_) (ndef_free hnd) hd0 hk0 (ha _) hN rfl (.inl hnm) (.inl rfl)).run [] s1 _ z.h
    { nx := fun σ H1 => ∃ f c', σ = (L2.start [x, nm] [v0]).set 1 (some (.ref f)) ∧ ExtN z.h H1 ∧ (∀ b, H1 b = none → z.h b = none) ∧ TabsN (tabsN K) H1 ∧ z.h f = none ∧ H1 f = some (FnO f ⟨nm, qual ++ ".<locals>." ++ nm, pa, bo, sc, cloFrom (envOfC qual (defScope st) s.heap.objs.size (He.fAd K (tag, none)) (.ref c)).cells sc.names [], c'⟩) ∧ H1 c' = some (CodeO c' (qual ++ ".<locals>." ++ nm)), rt := fun _ _ => False } I
      ⟨hTz, fun f c' H1 a1 a2 a3 a4 a5 a6 => ⟨f, c', rfl, a1, a2, a3, a4, a5, a6⟩⟩) fun fl s3 g => ?_)
  · obtain ⟨y, hy, rfl⟩ := List.mem_map.mp hp'
    show (fun _ _ => y.2) = _
    rw [tk.uni y hy _ hmem e]
  cases fl with
  | ret u => obtain ⟨_, _, _, _, _, e⟩ := g; exact e.elim
  | brk => obtain ⟨_, _, _, e⟩ := g; exact e.elim
  | cont => obtain ⟨_, _, _, e⟩ := g; exact e.elim
  | next =>
  obtain ⟨σ3, H1, I3, f, c', rfl, eN, nn, T1, f0, f1, c1⟩ := g
  refine wpAny_execs_cons (wpAny_Return_some (thn ((pe_var (X := cxOf CX0 P w K mg base [x, nm] qual (defScope st) (He.fAd K (tag, none)) (.ref c) A outer s z.h E) (x := nm) (i := 1) rfl (.inl hnm) hdb hcd).run [] s3 _ H1 (fun v H => v = .ref f ∧ H = H1) I3 ⟨.ref f, rfl, rfl, rfl⟩) fun u s4 ⟨v, H', J, ru, e1, e2⟩ => ?_))
  subst e1 e2
  have fr : (x, NameKind.free) ∈ sc.names := ndef_fr hnd x List.mem_cons_self
  have C := cells_of J (Caps.made (X := cxOf CX0 P w K mg base [x, nm] qual (defScope st) (He.fAd K (tag, none)) (.ref c) A outer s z.h E) (fr := [x]) (js := [0]) J.ok (ndef_free hnd) (ndef_fr hnd) rfl)
  obtain ⟨cc, hcc, hv⟩ := C.has 0 x rfl
  obtain ⟨uc, ruc, huc⟩ := hv v0 rfl
  have hce := (Caps.made (X := cxOf CX0 P w K mg base [x, nm] qual (defScope st) (He.fAd K (tag, none)) (.ref c) A outer s z.h E) (fr := [x]) (js := [0]) J.ok (ndef_free hnd) (ndef_fr hnd) rfl).sub x cc hcc
  have hcl := hclo _ cc hce
  have cc0 := (C.all x cc hcc).1
  have hge := J.ok.cab x cc rfl hce
  have ne : c' ≠ f := by
    rintro rfl
    rw [f1] at c1
    unfold FnO CodeO at c1
    obtain ⟨_, _, _, _, _, a1⟩ := fnO_at J.hok f1
    obtain ⟨cx, oc', vs', t', ex, b1, b2, b3⟩ := codeO_at (c := c') (q := qual ++ ".<locals>." ++ nm) J.hok (by rw [f1]; unfold FnO CodeO; exact c1)
    cases ex
    rw [a1] at b1; cases b1
    cases b2
  obtain ⟨t3, m1, m2⟩ := clo_to (v := v0) zok eN nn T1 f0 f1 c1 ne cc0
  show CE outer P w z.h s Q u s4
  refine ⟨.ref f, _, J.os, J.bare, ⟨J.base.keep, J.base.slot, fun b o e n hx => ?_, J.base.there, fun b xs e => ?_, fun b o g e => ?_, fun b ps e => ?_⟩, hok_cell J.hok cc0 ruc huc, ru, q _ _ (.clo tag d) t3 (.clo (x := x) (cc := cc) ?_ hcl fr m1 m2 upd_same (rv0.mono t3.ex)) hΦ⟩
  · have q1 := J.base.free b o e n hx
    exact (upd_ne fun g => absurd (Nat.lt_of_lt_of_le (Heap.lt_size e) (g ▸ hge)) (Nat.lt_irrefl _)).trans q1
  · have q1 := J.base.tups b xs e
    exact (upd_ne (ne_of_none q1 cc0)).trans q1
  · have q1 := J.base.frzs b o g e
    exact (upd_ne (ne_of_none q1 cc0)).trans q1
  · obtain ⟨more, q1⟩ := J.base.tbls b ps e
    exact ⟨more, (upd_ne (ne_of_none q1 cc0)).trans q1⟩
  · exact ⟨oc, od, _, osl, _, .FunctionDef nm pa bo [] none [] sc none nm p3, lk2, rfl, by rw [hbd]; rfl, rfl, rfl, rfl, rfl, rfl⟩
end
end T

/-! The call of a function that a def told: its cell is let go for the while of the call. -/
namespace T
open PySem PySem.Spec PyProof.Rows L2 LamX NdefX
/-- the inner function's promise, by what its cell holds -/
def SpI (K : Fg) (W : WP) : List (Option V) → Sp := fun ws vs H Q _ => ∃ (z : Z) (ds : List D) (v : V) (d : D) (Φ : D → Om → Prop), z.h = H ∧ z.Ok K ∧ RepL K z.d vs ds ∧ ws = [some v] ∧ Rep K z.d v d ∧ W (ds ++ [d]) z.o Φ ∧ ∀ v z2 r, To K z z2 → Rep K z2.d v r → Φ r z2.o → Q v z2.h
def InOk (P : Program) (w : World) (K : Fg) (mg : Str → Option Value) (base : Heap) (k : Nat) (tag : Str) (ps : List Str) (W : WP) : Prop :=
  ∀ (F : NF) (cc f : Addr) (y : Str), InnerOf K tag F → F.cl = [(y, cc)] → (y, NameKind.free) ∈ F.scope.names → NOk P w K mg base CX0 k f F ps [y] (SpI K W)
section
variable {P : Program} {w : World} {K : Fg} {mg : Str → Option Value} {base : Heap}
theorem InOk.mono {j k : Nat} {tag : Str} {ps : List Str} {W : WP} (o : InOk P w K mg base j tag ps W) (h : j ≤ k) : InOk P w K mg base k tag ps W := fun F cc f y a b c => (o F cc f y a b c).mono h
/-- the inner function of the def tag, by its body -/
theorem fnPIn {name qual x tag : Str} {st ist : Stmt} {N ps : List Str} {k n : Nat} (F0 : FnD K name qual st [] (tag, none)) (hga : He.fAd K (tag, none) = He.ga K tag) (hist : firstDef (defBody st) = some ist) (S : NScope N ps [x] (C8.fnScope ist)) (hx : ∀ y, (y, NameKind.free) ∈ (C8.fnScope ist).names → y = x) {W : WP} (hn : N.length = n) (B : BS K)
    (hbi : ∀ (q : Str) (cl : List (Str × Addr)) (c : Addr) (doc pm ctv : Value) (us : List Value), us.length = ps.length → bindArgs (NF.fd ⟨defNm ist, q, C8.fnArgs ist, C8.fnBody ist, C8.fnScope ist, cl, c⟩ doc pm ctv) ⟨us, []⟩ = pure (ps.zip us))
    (len : ∀ ds ω Φ, W ds ω Φ → ds.length = ps.length + 1)
    (hb : ∀ (q : Str) (cl : List (Str × Addr)) (c f : Addr) (A : Around) (outer : List Env) (s : Shared) (H : Hp) (E : XK), Room k (A.deeper (envF ⟨defNm ist, q, C8.fnArgs ist, C8.fnBody ist, C8.fnScope ist, cl, c⟩ f s.heap.objs.size)) → PSs (ncx CX0 P w K mg base N ⟨defNm ist, q, C8.fnArgs ist, C8.fnBody ist, C8.fnScope ist, cl, c⟩ f A outer s H E).nox (C8.fnBody ist) (B.t W0))
    (hw : ∀ ds ω Φ, W ds ω Φ → B.w (startD n ds) ω ⟨fun _ ω => Φ .non ω, Φ, fun _ _ => False, fun _ _ => False, fun _ _ _ => False⟩) : InOk P w K mg base (k + 1) tag ps W := by
  rintro ⟨nm, q, pa, bo, sc, cl, c⟩ cc f y ⟨oc, od, fd, osl, b, st', lk, hbo, hfd, e1, e2, e3, e4, e5⟩ hcl hy
  obtain ⟨fd0, F⟩ := F0
  obtain ⟨oc', od', dV, kV, doc', pm', an', cdv', ct', osl', rfl, lk2, _, _, _⟩ := F.ex
  rw [hga] at lk2
  rw [lk] at lk2
  obtain ⟨_, _, e0, _⟩ := (Obj.mk.inj (Option.some.inj lk2))
  have e0 := PySem.Data.func.inj e0
  subst e0
  have ebo : PySem.FuncBody.stmts (defBody st) = .stmts b := hbo
  cases ebo
  rw [hist] at hfd
  cases hfd
  dsimp only at e1 e2 e3 e4 e5 hcl hy
  subst e1 e3 e4 e5
  obtain rfl := hx y hy
  subst hn
  refine nok_of S (fun doc pm ctv us hu => hbi _ _ _ _ _ _ _ hu) (fun ws vs H Q E h => ?_) fun A outer s H vs ws Q E hr _ _ _ hsp => ⟨B.t W0, PSs.nox (hb _ _ _ _ _ _ _ _ _ hr), ?_⟩
  · obtain ⟨z, ds, v, d, Φ, _, _, r, _, _, hW, _⟩ := h
    have := len _ _ _ hW
    rw [List.length_append] at this
    simp only [List.length_cons, List.length_nil] at this
    rw [r.length]; omega
  · obtain ⟨z, ds, v, d, Φ, rfl, ok, r, rfl, rv, hW, q⟩ := hsp
    have es : startF N vs [some v] = L2.start N (vs ++ [v]) := by
      unfold startF L2.start
      rw [List.map_append, List.append_assoc, List.length_append]
      simp [Nat.sub_sub]
    rw [es]
    exact B.ok W0 (startD N.length (ds ++ [d])) z (L2.start N (vs ++ [v])) _ _ (hw _ z.o Φ hW) ok (rep_start (r.append (.cons rv .nil))) ⟨fun σ2 ρ2 z2 t _ h2 => q .non z2 .non t .non h2, fun v d z2 t r2 h2 => q v z2 d t r2 h2, fun _ _ _ _ _ h => h.elim, fun _ _ _ _ _ h => h.elim, fun _ _ _ _ _ _ _ _ _ h => h.elim⟩
/-! ### a call -/
/-- H without what it tells of cc -/
def hcut (H : Hp) (cc : Addr) : Hp := fun b => if b = cc then none else H b
theorem hcut_same {H : Hp} {cc : Addr} : hcut H cc cc = none := if_pos rfl
theorem hcut_ne {H : Hp} {cc b : Addr} (h : b ≠ cc) : hcut H cc b = H b := if_neg h
theorem hcut_sub {H : Hp} {cc b : Addr} {o : HO} (h : hcut H cc b = some o) : H b = some o := by
  unfold hcut at h
  split at h
  · cases h
  · exact h
/-- data that have no address -/
theorem dflat_rep {H H' : Hp} {v : V} {d : D} (f : flatD d = true) (r : Rep K H v d) : Rep K H' v d := by
  cases r <;> first | exact .non | exact .bl _ | exact .int _ | exact .str _ | cases f
theorem dflat_repL {H H' : Hp} : ∀ {vs : List V} {ds : List D}, ds.all flatD = true → RepL K H vs ds → RepL K H' vs ds
  | _, _, _, .nil => .nil
  | _, _, f, .cons h t => by
    rw [List.all_cons, Bool.and_eq_true] at f
    exact .cons (dflat_rep f.1 h) (dflat_repL f.2 t)
def tCloN (K : Fg) (tag : Str) (i : Nat) (W : WP) (t : TA) : TE := fun σ H Q => ∃ (f : Addr) (F : NF) (y : Str) (cc : Addr) (v : V), σ[i]? = some (some (.ref f)) ∧ H f = some (FnO f F) ∧ InnerOf K tag F ∧ F.cl = [(y, cc)] ∧ (y, NameKind.free) ∈ F.scope.names ∧
  t σ H fun vs H1 => H1 f = some (FnO f F) ∧ H1 F.c = some (CodeO F.c F.qual) ∧ H1 cc = some (CellO cc v) ∧ ((∀ q, CellO cc v ≠ CodeO cc q) → SpI K W [some v] vs (hcut H1 cc) (fun r H2 => H2 cc = none → Q r (upd H2 cc (CellO cc v))) E0)
/-- what the call of the function told by tag, that captured d, tells -/
def cloW (W : WP) (d : D) (xs : List D) (ω : Om) (Φ : D → Om → Prop) : Prop := xs.all flatD = true ∧ flatD d = true ∧ ∃ r, flatD r = true ∧ W (xs ++ [d]) (fun _ => none) (fun r' _ => r' = r) ∧ Φ r ω
def bClo (tag : Str) (i : Nat) (W : WP) (a : BA K) : BE K where
  t := fun X => tCloN K tag i W (a.t X)
  w := fun ρ ω Φ Ψ => match ρ[i]? with
    | some (some (.clo g d)) => g = tag ∧ a.w ρ ω (fun xs ω1 => cloW W d xs ω1 Φ) Ψ
    | _ => False
  ok := fun X ρ z σ Q Φ Ψ h k r q qx => by
    split at h
    · rename_i g d e
      obtain ⟨rfl, h⟩ := h
      obtain ⟨vf, h1, h2⟩ := r.at_ i _ e
      cases h2 with
      | @clo f cc _ y F v _ hin hcl hfr g1 g2 g3 g4 =>
      refine ⟨f, F, y, cc, v, h1, k.fz _ _ g1, hin, hcl, hfr, ?_⟩
      refine a.ok X ρ z σ _ _ Ψ h k r (fun vs z1 xs t1 rr hh => ?_) qx
      obtain ⟨fx, fd, rv, fr, hW, hΦ⟩ := hh
      have u1 := t1.ok.fz _ _ (t1.ex _ _ g1)
      have u2 := t1.ok.fz _ _ (t1.ex _ _ g2)
      have u3 := t1.ok.fz _ _ (t1.ex _ _ g3)
      refine ⟨u1, u2, u3, fun nq => ?_⟩
      have T1 : TabsN z1.t (hcut z1.h cc) := fun p hp => by
        obtain ⟨ps, a1, a2, a3⟩ := t1.ok.tab p hp
        refine ⟨ps, (hcut_ne fun e => ?_).trans a1, a2, fun pos cv hc => ?_⟩
        · rw [e, u3] at a1
          unfold CellO at a1; cases a1
        · obtain ⟨c, e1, e2⟩ := a3 pos cv hc
          refine ⟨c, e1, (hcut_ne fun e => ?_).trans e2⟩
          rw [e, u3] at e2
          exact nq _ (Option.some.inj e2)
      refine ⟨⟨fun _ => none, hcut z1.h cc, fun _ => none, z1.t⟩, xs, v, d, fun r' _ => r' = rv, rfl, ⟨fun _ _ e => (nomatch e), fun _ _ e => (nomatch e), T1, t1.ok.tk, fun _ _ e => (nomatch e)⟩, dflat_repL fx rr, rfl, dflat_rep fd g4, hW, fun vr z2 r' t2 r2 er c0 => ?_⟩
      subst er
      have kp : ∀ a o, z1.h a = some o → NT o → upd z2.h cc (CellO cc v) a = some o := fun a o e nt => by
        by_cases g : a = cc
        · rw [g, upd_same, ← u3, ← g, e]
        · rw [upd_ne g]
          exact t2.keep a o ((hcut_ne g).trans e) rfl nt
      have t3 : To K z1 ⟨z1.d, upd z2.h cc (CellO cc v), z1.o, z1.t⟩ := by
        refine ⟨⟨fun a o e => kp a o (t1.ok.fz a o e) (t1.ok.nd a o e), fun a c e => ?_, ?_, t1.ok.tk, t1.ok.nd⟩, .refl _, fun a o e _ nt => kp a o e nt, fun a e => ?_, rfl, fun a e => .inl e, fun a e => .inl e⟩
        · obtain ⟨b1, b2⟩ := t1.ok.cell a c e
          exact ⟨b1, b2.mono (.refl _) fun o ho => kp a o ho (repC_plain b2 ho).1⟩
        · have := t2.ok.tab
          rw [t2.tt] at this
          exact tabs_new this c0
        · show upd z2.h cc (CellO cc v) a ≠ none
          by_cases g : a = cc
          · rw [g, upd_same]; simp
          · rw [upd_ne g]
            exact t2.kept a (by show hcut z1.h cc a ≠ none; rw [hcut_ne g]; exact e)
      exact q vr _ _ (t1.trans t3) (dflat_rep fr r2) hΦ
    · exact h.elim
section
variable {X : Cx} {tag x : Str} {i j k : Nat} {W : WP} {ps : List Str} {t : TA} {e : Expr} {es : List Expr} {p pos : Pos}
theorem cellO_ok {P : Program} {w : World} {H : Hp} {h : Heap} {c : Addr} {v : V} (hok : HOk P w H h) (e : H c = some (CellO c v)) : ∃ u, L2.RelV v u ∧ h.IsCell c (some u) := by
  obtain ⟨z, _, _⟩ := hok c _ e
  exact z
theorem pe_clo (Fn : InOk X.prog X.w X.K X.mg X.base k tag ps W) (hr : Room j X.A) (hk : k ≤ j) (hN : X.N[i]? = some x) (hv : Vis X.env.scope x) (ha : PA X (e :: es) t)
    (hd : (x == ("__debug__" : Str)) = false := by decide) (hcd : (x == ("__classdict__" : Str)) = false := by decide)
    (he : starEach (e :: es) X.env = (false, eval e X.env) :: starEach es X.env := by rfl) (hpl : (backTo pos (starEach es X.env)).any (·.1) = false := by rfl) :
    PE X (.Call (.Name x p) (e :: es) [] pos) (tCloN X.K tag i W t) := by
  refine ⟨fun pins s σ H Q I h => ?_⟩
  obtain ⟨f, F, y, cc, v, hs, hf, hin, hcl, hfr, ht⟩ := h
  refine wpAny_Call_Name_kw (thn ((pe_var (pos := p) hN hv hd hcd).run pins s σ H (fun v H1 => v = .ref f ∧ H1 = H) I ⟨.ref f, hs, rfl, rfl⟩) fun u s1 ⟨v1, H1, I1, r1, q1⟩ => ?_)
  obtain ⟨ev, eH⟩ := q1
  subst ev
  rw [eH] at I1
  obtain rfl : u = Value.ref f := r1
  refine PySem.W.callWith_F (first := []) (fnAt_of I1 hf) (thn (ha.run pos pins s1 σ H _ I1 ht) fun us s2 ⟨vs, H2, I2, r, h1, h2, h3, q⟩ => ⟨fnAt_of I2 h1, ?_⟩) he hpl
  show wpAny _ _ (call (.ref f) us) _ _ _
  obtain ⟨u0, ru, hcell⟩ := cellO_ok I2.hok h3
  have q := q fun qq ee => by
    rw [ee] at h3
    obtain ⟨c2, oc, vs', t', ec, b1, b2, b3⟩ := codeO_at I2.hok h3
    cases ec
    obtain ⟨o, ho, hdat⟩ := hcell
    rw [ho] at b1; cases b1
    rw [hdat] at b2; cases b2
  have E2 := I2.env0
  have hcb : ∀ b o, X.base.get? b = some o → b ≠ cc := fun b o eb ec => by
    have := (E2.bs b o eb).2
    rw [ec, h3] at this; cases this
  have hfr2 : cc ∉ frs X.stack := fun hm => by
    have := E2.frf cc hm
    rw [h3] at this; cases this
  have next : ∀ {b : Addr} {g : HO}, H2 b = some g → (∀ z, g ≠ .ext z) → b ≠ cc := fun {b g} eb ng ec => by
    rw [ec, h3] at eb
    unfold CellO at eb
    exact ng _ (Option.some.inj eb).symm
  have E3 : Env0 X.prog X.w X.K X.mg X.base X.A X.stack s2 (hcut H2 cc) := ⟨E2.frames, E2.mod, fun b o eb => ⟨(E2.bs b o eb).1, (hcut_ne (hcb b o eb)).trans (E2.bs b o eb).2⟩, E2.bsz, E2.funs, fun b hb => by
      by_cases g : b = cc
      · rw [g]; exact hcut_same
      · exact (hcut_ne g).trans (E2.frf b hb), fun b o eb => (E2.hok b o (hcut_sub eb)).stay (fun _ _ _ z => z) (fun d z => (hcut_ne (next z fun _ w => by cases w)).trans z) fun d xs z => (hcut_ne (next z fun _ w => by cases w)).trans z, E2.bare⟩
  have C : CellsAt F.cl [y] [some v] s2.heap (hcut H2 cc) := by
    rw [hcl]
    refine ⟨rfl, fun y' c' e' => ?_, fun a b c' e1 e2 => ?_, fun i' y' e' => ?_⟩
    · rw [List.lookup_cons] at e'
      split at e'
      · cases e'; exact ⟨hcut_same, _, hcell⟩
      · cases e'
    · have one : ∀ a, List.lookup a [(y, cc)] = some c' → a = y := fun a ea => by
        rw [List.lookup_cons] at ea
        split at ea
        · rename_i g; exact eq_of_beq g
        · cases ea
      rw [one a e1, one b e2]
    · cases i' with
      | zero =>
        cases e'
        refine ⟨cc, by rw [List.lookup_cons, beq_self_eq_true], fun v' ev => ?_⟩
        cases ev
        exact ⟨u0, ru, hcell⟩
      | succ n => cases e'
  refine wpAny_call (codeAny_mono ((Fn F cc f y hin hcl hfr).run X.A X.stack s2 (hcut H2 cc) us vs _ _ _ (hr.mono hk) E3 ((hcut_ne fun ec => ?_).trans h1) ((hcut_ne fun ec => ?_).trans h2) C r q) fun rr s' hq => ?_)
  · obtain ⟨od, sl, doc, pm, ctv, ho⟩ := fnO_at I2.hok h1
    obtain ⟨o, ho', hdat⟩ := hcell
    rw [ec, ho'] at ho; cases ho
    cases hdat
  · obtain ⟨c2, oc, vs', t', ec2, b1, b2, b3⟩ := codeO_at I2.hok h2
    cases ec2
    obtain ⟨o, ho', hdat⟩ := hcell
    rw [ec, ho'] at b1; cases b1
    rw [hdat] at b2; cases b2
  cases rr with
  | error e => exact hq.elim
  | ok fl =>
    cases fl with
    | ret u =>
      obtain ⟨v', H', os, bare, un, hok, r', q'⟩ := hq
      obtain ⟨oc, hoc, hdat⟩ := id hcell
      have c0 : H' cc = none := un.free cc oc hoc hcut_same (by simp)
      have cell' : s'.heap.IsCell cc (some u0) := ⟨oc, un.keep cc oc hoc hcut_same hfr2 (by simp), hdat⟩
      have back : ∀ {b : Addr}, H2 b = none → b ≠ cc := fun {b} eb ec => by rw [ec, h3] at eb; cases eb
      refine I2.after ⟨v', _, os, bare, ⟨fun b o e n hx hy => un.keep b o e ((hcut_ne (back n)).trans n) hx hy, fun b o e n hx hy => un.slot b o e ((hcut_ne (back n)).trans n) hx hy, fun b o e n hx => (upd_ne (back n)).trans (un.free b o e ((hcut_ne (back n)).trans n) hx), un.there,
        fun b xs e => ?_, fun b o g e => ?_, fun b ps e => ?_⟩, hok_cell hok c0 ru cell', r', q' c0⟩
      · have nb := next e fun _ w => by cases w
        exact (upd_ne nb).trans (un.tups b xs ((hcut_ne nb).trans e))
      · have nb := next e fun _ w => by cases w
        exact (upd_ne nb).trans (un.frzs b o g ((hcut_ne nb).trans e))
      · have nb := next e fun _ w => by cases w
        obtain ⟨more, q1⟩ := un.tbls b ps ((hcut_ne nb).trans e)
        exact ⟨more, (upd_ne nb).trans q1⟩
    | next => exact False.elim hq
    | brk => exact False.elim hq
    | cont => exact False.elim hq
theorem P_clo {WE : WX} {As : BA X.K} (i : Nat) (Fn : InOk X.prog X.w X.K X.mg X.base k tag ps W) (hr : Room k X.A) (ha : PA X (e :: es) (As.t WE)) (hN : X.N[i]? = some x := by rfl) (hv : Vis X.env.scope x := by first | exact Or.inl rfl | exact Or.inr (Or.inl rfl) | exact Or.inr (Or.inr rfl))
    (hd : (x == ("__debug__" : Str)) = false := by decide) (hcd : (x == ("__classdict__" : Str)) = false := by decide)
    (he : starEach (e :: es) X.env = (false, eval e X.env) :: starEach es X.env := by rfl) (hpl : (backTo pos (starEach es X.env)).any (·.1) = false := by rfl) :
    PE X (.Call (.Name x p) (e :: es) [] pos) ((bClo tag i W As).t WE) := pe_clo Fn hr (Nat.le_refl _) hN hv ha hd hcd he hpl
end
section
variable {tag : Str} {i : Nat} {W : WP} {a : BA K} {ρ : En} {ω : Om} {Φ : D → Om → Prop} {Ψ : Exn → Om → Prop} {d : D}
theorem x_clo (h : ρ[i]? = some (some (.clo tag d))) : (bClo tag i W a).w ρ ω Φ Ψ = a.w ρ ω (fun xs ω1 => cloW W d xs ω1 Φ) Ψ := by
  show (match ρ[i]? with
    | some (some (.clo g d)) => g = tag ∧ a.w ρ ω (fun xs ω1 => cloW W d xs ω1 Φ) Ψ
    | _ => False) = _
  rw [h]
  simp
end
end
end T

/-! len(set(..)) of texts, like ones among them; tables of the top. -/
namespace T
open PySem PySem.Spec PyProof.Rows L2
/-! ### the unlike ones -/
def uqStep {α : Type} [BEq α] (acc : List α) (x : α) : List α := if acc.any (· == x) then acc else acc ++ [x]
/-- the unlike ones of xs, each where it is met first -/
def uq {α : Type} [BEq α] (xs : List α) : List α := xs.foldl uqStep []
theorem uq_snoc {α : Type} [BEq α] (xs : List α) (x : α) : uq (xs ++ [x]) = uqStep (uq xs) x := by unfold uq; rw [List.foldl_append]; rfl
theorem uqStep_len {α : Type} [BEq α] (acc : List α) (x : α) : (uqStep acc x).length = if acc.any (· == x) then acc.length else acc.length + 1 := by
  unfold uqStep; split <;> simp
theorem uqStep_any {α : Type} [BEq α] [LawfulBEq α] [DecidableEq α] (acc : List α) (x k : α) : (uqStep acc x).any (· == k) = (acc.any (· == k) || decide (k = x)) := by
  unfold uqStep
  split
  · rename_i h
    by_cases e : k = x
    · subst e; rw [h]; simp
    · simp [e]
  · rw [List.any_append, List.any_cons, List.any_nil, Bool.or_false]
    congr 1
    by_cases e : k = x
    · subst e; simp
    · rw [decide_eq_false e]; exact beq_eq_false_iff_ne.mpr fun z => e z.symm
theorem snoc_ind {α : Type} {P : List α → Prop} (h0 : P []) (h1 : ∀ xs x, P xs → P (xs ++ [x])) (xs : List α) : P xs := by
  have key : ∀ ys : List α, P ys.reverse := fun ys => by
    induction ys with
    | nil => exact h0
    | cons y r ih => rw [List.reverse_cons]; exact h1 _ _ ih
  have := key xs.reverse
  rwa [List.reverse_reverse] at this
theorem uq_le {α : Type} [BEq α] (xs : List α) : (uq xs).length ≤ xs.length := by
  induction xs using snoc_ind with
  | h0 => exact Nat.le_refl _
  | h1 xs x ih =>
    rw [uq_snoc, uqStep_len, List.length_append, List.length_singleton]
    split <;> omega
theorem uq_map {α β : Type} [BEq α] [LawfulBEq α] [BEq β] [LawfulBEq β] (f : α → β) (hf : ∀ a b, f a = f b → a = b) (xs : List α) : uq (xs.map f) = (uq xs).map f := by
  induction xs using snoc_ind with
  | h0 => rfl
  | h1 xs x ih =>
    rw [List.map_append, List.map_singleton, uq_snoc, uq_snoc, ih]
    unfold uqStep
    have e : ((uq xs).map f).any (· == f x) = (uq xs).any (· == x) := by
      rw [List.any_map, Bool.eq_iff_iff, List.any_eq_true, List.any_eq_true]
      constructor
      · rintro ⟨y, h1, h2⟩; exact ⟨y, h1, by simpa using hf _ _ (eq_of_beq h2)⟩
      · rintro ⟨y, h1, h2⟩; exact ⟨y, h1, by simpa using congrArg f (eq_of_beq h2)⟩
    rw [e]
    split
    · rfl
    · rw [List.map_append]; rfl
section
variable {prog : Program} {w : World} {A : Around} {R : Result → Shared → Prop} {I : Addr} {fp wr : List Addr} {G : Array GenState → Array GenState → Prop} {n : Nat} {P : Nat → Value → Prop} {St : Nat → Shared → Prop}
/-- the set S while texts are put into it, one by one -/
theorem loopU (W : WalksS prog w A.in1 I fp wr G n P St) (S : Addr) (hSf : S ∉ fp) (xs : List Str) (hsz : xs.length = n) (hb : n + 1 < scanBound) (hval : ∀ i v, P i v → ∃ x t, xs[i]? = some x ∧ v = .str x t) :
    ∀ (k i : Nat) (s : Shared), n - i = k → i ≤ n → St i s → s.heap.SetOf (PySem.strKind prog w) S (fun k' => (uq (xs.take i)).any (· == k')) (uq (xs.take i)).length →
      (∀ s', Moved (S :: wr) G s s' → s'.heap.SetOf (PySem.strKind prog w) S (fun k' => (uq xs).any (· == k')) (uq xs).length → R (.ok (.ret .none)) s') →
      codeAny (model prog w) A (.builtin "set.update.loop" ⟨[.ref S, .ref I], []⟩) R s
  | 0, i, s, hk, hi, hst, hS, hR => by
    have e : i = n := by omega
    subst e
    rw [← hsz, List.take_length] at hS
    refine codeAny_builtin PyProof.Rows.F.entry_set_update_loop ?_
    rw [Around.under_plainId PyProof.Rows.F.plain_set_update_loop _]
    refine wpAny_bind (m := pyNext (.ref I)) (W.done s _ _ hst fun s' hm => wpAny_pure (hR s' (hm.mono fun b hb => List.mem_cons_of_mem _ hb) ?_))
    obtain ⟨o, es, ep, t, ho, rest⟩ := hS
    exact ⟨o, es, ep, t, hm.heap S _ (fun h => hSf (W.sub _ h)) ho, rest⟩
  | k + 1, i, s, hk, hi, hst, hS, hR => by
    have hlt : i < n := by omega
    have sub : ∀ b ∈ wr, b ∈ S :: wr := fun b hb => List.mem_cons_of_mem _ hb
    refine codeAny_builtin PyProof.Rows.F.entry_set_update_loop ?_
    rw [Around.under_plainId PyProof.Rows.F.plain_set_update_loop _]
    refine wpAny_bind (m := pyNext (.ref I)) (W.item i s _ _ hlt hst fun v s' hP hst' hm => ?_)
    obtain ⟨x, t, hx, rfl⟩ := hval i v hP
    have hS1 : s'.heap.SetOf (PySem.strKind prog w) S (fun k' => (uq (xs.take i)).any (· == k')) (uq (xs.take i)).length := by
      obtain ⟨o, es, ep, tb, ho, rest⟩ := hS
      exact ⟨o, es, ep, tb, hm.heap S _ (fun h => hSf (W.sub _ h)) ho, rest⟩
    refine wpAny_bind (m := holding [Value.str x t] (setAdd S (.str x t))) (wpAny_holding ?_)
    unfold setAdd
    refine wpAny_holding (wpAny_bind ((PySem.strKind prog w).pyHash (k := x) (strKind_is _ _ _ _) ?_))
    have room : (uq (xs.take i)).length + 1 < scanBound := by
      have h1 := uq_le (xs.take i)
      rw [List.length_take] at h1
      have : min i xs.length ≤ n := by rw [hsz]; exact Nat.min_le_right _ _
      omega
    refine wpAny_setAddHashed_of (knd := PySem.strKind prog w) (s := { s' with toks := s'.toks + 1 }) (strKind_is _ _ _ _) rfl hS1 room fun h' hsb hS2 => ?_
    have et : xs.take (i + 1) = xs.take i ++ [x] := by rw [List.take_succ, hx]; rfl
    have hS3 : h'.SetOf (PySem.strKind prog w) S (fun k' => (uq (xs.take (i + 1))).any (· == k')) (uq (xs.take (i + 1))).length := by
      rw [et, uq_snoc]
      exact SetOf_congr hS2 (fun k' => (uqStep_any _ _ _).symm) (uqStep_len _ _).symm
    refine wpAny_pure ⟨plainId_quiet PyProof.Rows.F.plain_set_update_loop _, loopU W S hSf xs hsz hb hval k (i + 1) _ (by omega) hlt (W.frame _ s' _ _ hst' (Nat.le_succ _) fun b hb o e => ?_) hS3 fun s2 hm2 h2 => hR s2 (Moved.trans W.gtrans ((hm.mono sub).then_heap (Nat.le_succ _) fun b o hb e => ?_) hm2) h2⟩
    · rw [hsb.2 b fun z => hSf (z ▸ hb)]; exact e
    · rw [hsb.2 b fun z => hb (z ▸ List.mem_cons_self)]; exact e
end
section
variable {prog : Program} {w : World} {A : Around} {E : Value → Shared → Prop} {s : Shared}
theorem strs_ith {us : List Value} {xs : List Str} (h : StrsAre us xs) {i : Nat} {v : Value} (e : us[i]? = some v) : ∃ x t, xs[i]? = some x ∧ v = .str x t := by
  obtain ⟨t, rfl⟩ := SS.strs_at h i v e
  have hl : i < xs.length := by
    rw [← StrsAre.len_eq h]
    exact (List.getElem?_eq_some_iff.mp e).1
  exact ⟨_, t, by rw [List.getD_eq_getElem?_getD, List.getElem?_eq_getElem hl]; rfl, rfl⟩
set_option maxHeartbeats 3200000 in
theorem call_set_listU {l : Addr} {items : Array Value} {xs : List Str} {Q : Value → Shared → Prop} (hh : A.handled = none) (hl : s.heap.IsList l items) (hi : StrsAre items.toList xs) (hb : xs.length + 1 < scanBound)
    (h : ∀ (h' : Heap) (tk : Nat), h'.SetOf (PySem.strKind prog w) s.heap.objs.size (fun k' => (uq xs).any (· == k')) (uq xs).length → (∀ b o, b < s.heap.objs.size → s.heap.get? b = some o → h'.get? b = some o) → Q (.ref s.heap.objs.size) { s with heap := h', toks := tk }) :
    wpAny (model prog w) A (call (.type "set") [.ref l]) Q E s := by
  obtain ⟨c, tl, hmro⟩ := PySem.F.called_set.mro
  have f1 := PySem.F.called_set.made
  have f2 := PySem.F.called_set.sub
  have f3 := PySem.F.called_set.notType
  have f4 := PySem.F.called_set.canCreate
  have f5 := PySem.F.typeCall_set_1 (.ref l)
  refine wpAny_call (codeAny_of_tree ?_)
  show wpAny _ _ (callAny (.type "set") _) _ _ _
  refine wpAny_pure ⟨Code.quiet_builtin _ (by decide +kernel), codeAny_builtin PySem.F.entry_type_call ?_⟩
  rw [Around.under_plain (weight_type_call_type "set" [.ref l] []) rfl]
  repeat (any_goals (first | assumption | wp_step))
  refine codeAny_mono (code_set_new_1 (.ref l) (E := E) (Q₁ := fun obj s₁ => ∃ led : Bool, obj = .ref s.heap.objs.size ∧ s₁ = { s with heap := s.heap.push { cls := .type "set", dict := none, data := .set #[] 0 (.fresh 0 0 led) } }) fun led => ⟨led, rfl, rfl⟩) fun r s₁ hr => ?_
  match r, hr with
  | .error e, hr => exact hr
  | .ok .next, hr => exact hr.elim
  | .ok .brk, hr => exact hr.elim
  | .ok .cont, hr => exact hr.elim
  | .ok (.ret obj), hr =>
  obtain ⟨led, rfl, rfl⟩ := hr
  have hS : (s.heap.push { cls := .type "set", dict := none, data := .set #[] 0 (.fresh 0 0 led) }).get? s.heap.objs.size = some { cls := .type "set", dict := none, data := .set #[] 0 (.fresh 0 0 led) } := Heap.get?_push_size _ rfl
  have hT : Shared.TypeIs { s with heap := s.heap.push { cls := .type "set", dict := none, data := .set #[] 0 (.fresh 0 0 led) } } (.ref s.heap.objs.size) "set" := ⟨_, hS, rfl⟩
  have f6 := PySem.F.called_set.init.lookup
  have f7 := PySem.F.called_set.init.bind (.ref s.heap.objs.size)
  repeat (any_goals (first | assumption | wp_step))
  refine codeAny_mono (codeAny_call_builtin (R := wants (fun r s₂ => r = .none ∧ ∃ h' tk, s₂ = { s with heap := h', toks := tk } ∧ h'.SetOf (PySem.strKind prog w) s.heap.objs.size (fun k' => (uq xs).any (· == k')) (uq xs).length ∧
      (∀ b o, b < s.heap.objs.size → s.heap.get? b = some o → h'.get? b = some o)) E) PySem.F.called_set.init.plain PySem.F.entry_set_init (check_set_init_1 hT ?_)) fun r₂ s₂ hr₂ => ?_
  · obtain ⟨ol, hol, hcl, nl, hdl⟩ := hl
    obtain ⟨ocls, odict, odata, oslots⟩ := ol
    dsimp only at hcl hdl
    subst hcl hdl
    have hol' : (s.heap.push { cls := .type "set", dict := none, data := .set #[] 0 (.fresh 0 0 led) }).get? l = some { cls := .type "list", dict := odict, data := .seq items nl, slots := oslots } := Heap.get?_push_of_some _ hol
    have g1 := PySem.F.sub_list_set
    have g2 := PySem.F.sub_list_frozenset
    have g3 : (Value.type "list" == Value.type "dict") = false := by decide
    have hl1 : (s.heap.push { cls := .type "set", dict := none, data := .set #[] 0 (.fresh 0 0 led) }).IsList l items := ⟨_, hol', rfl, nl, rfl⟩
    unfold Builtin.«set.__init__» noKeywords Builtin.Frozenset.updateFrom
    generalize hPI : pyIter = PI
    wp_walk
    subst hPI
    have lS : l < s.heap.objs.size := Heap.lt_size hol
    have szP : (s.heap.push { cls := .type "set", dict := none, data := .set #[] 0 (.fresh 0 0 led) }).objs.size = s.heap.objs.size + 1 := Heap.size_push _ _
    refine wpAny_pyIter_list hl1 (wpAny_bind (wpAny_runValue ?_))
    have hsz : xs.length = items.size := by rw [← StrsAre.len_eq hi, Array.length_toList]
    refine loopU ((Walks.list (by simp [hh]) _ l (by rw [szP]; exact Nat.ne_of_lt (Nat.lt_succ_of_lt lS)) items).toS) s.heap.objs.size (by rw [szP]; simp only [List.mem_cons, List.not_mem_nil, or_false, not_or]; exact ⟨Nat.ne_of_lt (Nat.lt_succ_self _), Nat.ne_of_gt lS⟩) xs hsz (by rw [← hsz]; exact hb) (fun i v hv => strs_ith hi (by rw [Array.getElem?_toList]; exact hv)) (items.size - 0) 0 _ (by omega) (Nat.zero_le _)
      ⟨⟨_, Heap.get?_push_size _ rfl, rfl, rfl⟩, hl1.push _⟩ ?_ fun s' hm hS' => ?_
    · exact SetOf_congr ((setObjOf_fresh (knd := PySem.strKind prog w) led).setOf (Heap.get?_push_of_some _ hS) (by unfold scanBound; omega)) (fun _ => rfl) rfl
    · obtain ⟨h', g', d', tk', os'⟩ := s'
      obtain rfl : g' = s.gens := hm.gens
      obtain rfl : d' = s.drawn := hm.drawn
      obtain rfl : os' = s.os := hm.os
      show wpAny _ _ _ _ _ _
      refine wpAny_pure ?_
      show wpAny _ _ (ret Value.none) _ _ _
      refine wpAny_pure ⟨rfl, h', tk', rfl, hS', fun b o hb' e => hm.heap b o ?_ (Heap.get?_push_of_some _ (Heap.get?_push_of_some _ e))⟩
      intro hm'
      rw [szP] at hm'
      simp only [List.mem_cons, List.not_mem_nil, or_false] at hm'
      rcases hm' with hm' | hm'
      · exact absurd hm' (Nat.ne_of_lt hb')
      · exact absurd hm' (Nat.ne_of_lt (Nat.lt_succ_of_lt hb'))
  · match r₂, hr₂ with
    | .error e, hr₂ => exact hr₂
    | .ok .next, hr₂ => exact hr₂.elim
    | .ok .brk, hr₂ => exact hr₂.elim
    | .ok .cont, hr₂ => exact hr₂.elim
    | .ok (.ret r), hr₂ =>
      obtain ⟨rfl, h', tk, rfl, hS', hk'⟩ := hr₂
      repeat (any_goals (first | assumption | wp_step))
      exact h _ _ hS' hk'
end
section
variable {X : Cx}
def tLenSetS (K : Fg) (ta : TE) : TE := fun σ H Q => ta σ H fun x H1 => ∃ (l : Addr) (ts : List Str), x = V.ref l ∧ SqL K H1 l (ts.map V.str) ∧ ts.length ≤ 4000 ∧ Q (.int (uq ts).length) H1
theorem pe_lenSetS {a : Expr} {ta : TE} {p p2 q pos : Pos} (hc : X.calm = true) (hg : Gl X "len") (hm : X.mg "len" = none) (hg2 : Gl X "set") (hm2 : X.mg "set" = none) (ha : PE X a ta)
    (na : starEach [a] X.env = (false, eval a X.env) :: starEach [] X.env := by rfl) : PE X (.Call (.Name "len" p) [.Call (.Name "set" p2) [a] [] q] [] pos) (tLenSetS X.K ta) := by
  refine ⟨fun pins s σ H Q I h => Call_ (ld_blt I hg hm PySem.boot_len (callWith_builtin1 (args_cons (Call_ (ld_blt I hg2 hm2 boot_set (callWith_type1 (args_cons (thn (ha.run pins s σ H _ I h) fun v s1 ⟨x, H1, I1, r1, q1⟩ => args_nil ?_) na) na rfl))) rfl) rfl rfl))⟩
  obtain ⟨l, ts, rfl, hq, h1, q1⟩ := q1
  cases r1
  obtain ⟨its, r, pl, hz⟩ := I1.list hq
  refine call_set_listU (I1.ok.hd hc) pl.isList (xs := ts) (by simpa using strsAre_of r) (by unfold scanBound; omega) fun h' tk hS hk => args_nil ?_
  obtain ⟨o, es, ep, t, ho, hex, hd, _, _, _, hf, hn⟩ := hS
  have I2 : Inv X pins σ H1 { s1 with heap := h', toks := tk } := I1.kept fun b o e => hk b o (Heap.lt_size e) e
  have hle := uq_le ts
  exact call_len_set ho hex hd hf (by rw [hn] <;> omega) ⟨.int (uq ts).length, H1, I2.tok _, ⟨_, by rw [hn]⟩, q1⟩
end
section
variable {K : Fg}
def bLenSetS (a : BE K) : BE K where
  t := fun W => tLenSetS K (a.t W)
  w := fun ρ ω Φ Ψ => a.w ρ ω (fun x ω1 => optW (lstOf ω1 x) fun us => optW (strsOf us) fun ts => NeedW (ts.length ≤ 4000) (Φ (.int ((uq ts).length : Nat)) ω1)) Ψ
  ok := fun W ρ z σ Q Φ Ψ h k r q qx => by
    refine a.ok W ρ z σ _ _ Ψ h k r (fun x z1 d t1 r1 h1 => ?_) qx
    obtain ⟨us, h2, h1⟩ := optW_iff.mp h1
    obtain ⟨ts, h3, h1⟩ := optW_iff.mp h1
    obtain ⟨l, ys, rfl, ha, ry⟩ := lstOf_seq t1.ok r1 h2
    rw [strsOf_eq h3] at ry
    rw [RepL.strs ry] at ha
    refine ⟨l, ts.map sOf, rfl, ha, by rw [List.length_map]; exact h1.1, ?_⟩
    rw [uq_map sOf (fun a b e => by unfold sOf at e; simpa using e), List.length_map]
    exact q _ z1 _ t1 (.int _) h1.2
/-- a table of the top -/
def bConK (x : Str) (d : D) : BE K where
  t := fun _ _ H Q => (∀ H', Rep K H' (.ref (He.ga K x)) d) → Q (.ref (He.ga K x)) H
  w := fun _ ω Φ _ => Φ d ω
  ok := fun W ρ z σ Q Φ Ψ h k r q _ => fun hr => q _ z d k.to (hr _) h
end
section
variable {X : Cx} {W : WX} {a : Expr} {A : BE X.K} {p p2 q pos : Pos} {x : Str} {d : D}
theorem P_lenSetS (hm : X.mg "len" = none) (hm2 : X.mg "set" = none) (ha : PE X a (A.t W)) (hg : Gl X "len" := by rfl) (hg2 : Gl X "set" := by rfl) (hc : X.calm = true := by rfl)
    (na : starEach [a] X.env = (false, eval a X.env) :: starEach [] X.env := by rfl) : PE X (.Call (.Name "len" p) [.Call (.Name "set" p2) [a] [] q] [] pos) ((bLenSetS A).t W) := pe_lenSetS hc hg hm hg2 hm2 ha na
theorem P_globK (hm : X.mg x = some (.ref (He.ga X.K x)) ∧ ∀ H', Rep X.K H' (.ref (He.ga X.K x)) d) (hg : Gl X x := by rfl) (hd : (x == ("__debug__" : Str)) = false := by decide) : PE X (.Name x pos) ((bConK x d : BE X.K).t W) :=
  ⟨fun pins s σ H Q I h => (pe_glob hg hm.1 (v := .ref (He.ga X.K x)) rfl hd).run pins s σ H Q I (h hm.2)⟩
end
section
variable {K : Fg} {ρ : En} {ω : Om} {Φ : D → Om → Prop} {Ψ : Exn → Om → Prop} {A : BE K}
theorem x_lenSetS : (bLenSetS A).w ρ ω Φ Ψ = A.w ρ ω (fun x ω1 => optW (lstOf ω1 x) fun us => optW (strsOf us) fun ts => NeedW (ts.length ≤ 4000) (Φ (.int ((uq ts).length : Nat)) ω1)) Ψ := rfl
theorem x_conK {x : Str} {d : D} : (bConK x d : BE K).w ρ ω Φ Ψ = Φ d ω := rfl
end
/-! ### what the head tells besides -/
/-- a table's data: told by what the head reads -/
def dvD : He.Dv → Option D
  | .non => some .non
  | .bl b => some (.bl b)
  | .int i => some (.int i)
  | .str x => some (.str (cs x))
  | _ => none
theorem dv_rep {K : Fg} {H : Hp} : ∀ {vs : List He.Dv} {ds : List D}, vs.mapM dvD = some ds → RepL K H (vs.map (He.Dv.v K)) ds
  | [], ds, h => by
    have : ds = [] := by simpa using h.symm
    subst this; exact .nil
  | v :: r, ds, h => by
    rw [List.mapM_cons] at h
    cases e1 : dvD v with
    | none => rw [e1] at h; cases h
    | some d =>
      cases e2 : r.mapM dvD with
      | none => rw [e1, e2] at h; cases h
      | some es =>
        rw [e1, e2] at h
        cases h
        refine .cons ?_ (dv_rep e2)
        cases v <;> first | (cases e1; first | exact .non | exact .bl _ | exact .int _ | exact Rep.cs _) | cases e1
theorem tup_told {K : Fg} {x : Str} {vs : List He.Dv} {ds : List D} (h : He.tupB K x vs = true) (e : vs.mapM dvD = some ds) (H : Hp) : Rep K H (.ref (He.ga K x)) (.tup ds) := .tup (He.tupB_ok h H) (dv_rep e)
/-- .. with more that the head looks at -/
def exC (tf : List He.Defn) (cs : Fg → Bool) (K : Fg) : Bool := exB tf K && cs K
theorem says_exB {fa : List He.Fa} {fn : List He.DefD} {tf : List He.Defn} {cs : Fg → Bool} {w : World} {h : Heap} {K : Fg} (c : He.SaysX fa fn [] tf (exC tf cs) w h K) : He.SaysX fa fn [] tf (exB tf) w h K ∧ cs K = true := by
  have e : (exB tf K && cs K) = true := c.more
  rw [Bool.and_eq_true] at e
  exact ⟨⟨c.t, e.1, c.hd, c.out, c.empty⟩, e.2⟩
end T
namespace T
open PySem L2
theorem free_one {sc : Scope} {x : Str} (h : (sc.names.all fun p => !decide (p.2 = .free) || decide (p.1 = x)) = true) : ∀ y, (y, NameKind.free) ∈ sc.names → y = x := fun y hy => by
  have := List.all_eq_true.mp h _ hy
  simpa using this
theorem x_WClo {tag : Str} {d : D} {ω : Om} {Φ : D → Om → Prop} : WClo tag [d] ω Φ = Φ (.clo tag d) ω := propext ⟨fun ⟨_, h, g⟩ => by cases h; exact g, fun h => ⟨d, rfl, h⟩⟩
theorem len_WClo {tag : Str} : ∀ ds ω Φ, WClo tag ds ω Φ → ds.length = 1 := fun _ _ _ ⟨_, h, _⟩ => by rw [h]; rfl
end T

/-! Dicts, by their keys and by keys that are tuples. -/
namespace T
open PySem PySem.Spec PyProof.Rows L2
/-! ### keys -/
def kD : Key → D
  | .inl i => .int i
  | .inr s => .str (cs s)
def keyD : D → Option Key
  | .int i => some (.inl i)
  | .str s => some (.inr (sOf s))
  | _ => none
def keysD : List D → Option (List Key)
  | [] => some []
  | d :: r => match keyD d, keysD r with
    | some k, some ks => some (k :: ks)
    | _, _ => none
theorem kD_rep {K : Fg} {H : Hp} (k : Key) : Rep K H (kV k) (kD k) := by
  cases k with
  | inl i => exact .int i
  | inr s => exact Rep.cs s
theorem kDs_rep {K : Fg} {H : Hp} : ∀ ks : List Key, RepL K H (ks.map kV) (ks.map kD)
  | [] => .nil
  | k :: r => .cons (kD_rep k) (kDs_rep r)
theorem keyD_ok {K : Fg} {H : Hp} {v : V} {d : D} {k : Key} (r : Rep K H v d) (e : keyD d = some k) : v = kV k := by
  cases r <;> cases e <;> rfl
theorem keysD_ok {K : Fg} {H : Hp} : ∀ {vs : List V} {ds : List D} {ks : List Key}, RepL K H vs ds → keysD ds = some ks → vs = ks.map kV
  | _, _, _, .nil, e => by cases e; rfl
  | _, _, _, .cons (d := d) (ds := ds) h r, e => by
    unfold keysD at e
    cases e1 : keyD d with
    | none => rw [e1] at e; cases e
    | some k =>
      cases e2 : keysD ds with
      | none => rw [e1, e2] at e; cases e
      | some ks =>
        rw [e1, e2] at e
        cases e
        rw [keyD_ok h e1, keysD_ok r e2]; rfl
/-! ### looked up, put -/
section
variable {κ : Type} [DecidableEq κ]
def valD (kvs : List (κ × D)) (k : κ) : Option D := (kvs.find? fun p => decide (p.1 = k)).map (·.2)
def putD (kvs : List (κ × D)) (k : κ) (d : D) : List (κ × D) := if (kvs.any fun p => decide (p.1 = k)) = true then kvs.map (fun p => if p.1 = k then (p.1, d) else p) else kvs ++ [(k, d)]
def dropD (kvs : List (κ × D)) (k : κ) : List (κ × D) := kvs.filter fun p => decide (p.1 ≠ k)
variable {K : Fg} {H : Hp}
theorem repK_len : ∀ {xs : List (κ × V)} {ds : List (κ × D)}, RepK K H xs ds → xs.length = ds.length
  | _, _, .nil => rfl
  | _, _, .cons _ r => by rw [List.length_cons, List.length_cons, repK_len r]
theorem repK_any (k : κ) : ∀ {xs : List (κ × V)} {ds : List (κ × D)}, RepK K H xs ds → (xs.any fun p => decide (p.1 = k)) = ds.any fun p => decide (p.1 = k)
  | _, _, .nil => rfl
  | _, _, .cons h r => by rw [List.any_cons, List.any_cons, repK_any k r, h.1]
theorem repK_app : ∀ {xs ys : List (κ × V)} {ds es : List (κ × D)}, RepK K H xs ds → RepK K H ys es → RepK K H (xs ++ ys) (ds ++ es)
  | _, _, _, _, .nil, s => s
  | _, _, _, _, .cons h r, s => .cons h (repK_app r s)
theorem repK_map {k : κ} {v : V} {d : D} (rv : Rep K H v d) : ∀ {xs : List (κ × V)} {ds : List (κ × D)}, RepK K H xs ds → RepK K H (xs.map fun p => if p.1 = k then (p.1, v) else p) (ds.map fun p => if p.1 = k then (p.1, d) else p)
  | _, _, .nil => .nil
  | _, _, .cons (a := p) (b := q) h r => by
    refine .cons ?_ (repK_map rv r)
    show (if p.1 = k then (p.1, v) else p).1 = (if q.1 = k then (q.1, d) else q).1 ∧ Rep K H (if p.1 = k then (p.1, v) else p).2 (if q.1 = k then (q.1, d) else q).2
    by_cases e : q.1 = k
    · rw [if_pos e, if_pos (h.1.trans e)]; exact ⟨h.1, rv⟩
    · rw [if_neg e, if_neg (fun z => e (h.1.symm.trans z))]; exact h
theorem repK_put {k : κ} {v : V} {d : D} (rv : Rep K H v d) {xs : List (κ × V)} {ds : List (κ × D)} (r : RepK K H xs ds) : RepK K H (putK xs k v) (putD ds k d) := by
  unfold putK putD
  rw [repK_any k r]
  split
  · exact repK_map rv r
  · exact repK_app r (.cons ⟨rfl, rv⟩ .nil)
theorem repK_val (k : κ) : ∀ {xs : List (κ × V)} {ds : List (κ × D)}, RepK K H xs ds → (valV xs k = none ∧ valD ds k = none) ∨ ∃ v d, valV xs k = some v ∧ valD ds k = some d ∧ Rep K H v d
  | _, _, .nil => .inl ⟨rfl, rfl⟩
  | _, _, .cons (a := p) (b := q) h r => by
    unfold valV valD
    rw [List.find?_cons, List.find?_cons]
    by_cases e : q.1 = k
    · rw [decide_eq_true (h.1.trans e), decide_eq_true e]
      exact .inr ⟨_, _, rfl, rfl, h.2⟩
    · rw [decide_eq_false (fun z => e (h.1.symm.trans z)), decide_eq_false e]
      exact repK_val k r
theorem repK_get : ∀ {xs : List (κ × V)} {ds : List (κ × D)} {i : Nat} {q : κ × D}, RepK K H xs ds → ds[i]? = some q → ∃ v, xs[i]? = some (q.1, v) ∧ Rep K H v q.2
  | _, _, _, _, .nil, e => by simp at e
  | _, _, 0, _, .cons (a := p) h r, e => by
    simp at e; subst e
    exact ⟨p.2, by rw [← h.1]; rfl, h.2⟩
  | _, _, i + 1, _, .cons h r, e => by
    obtain ⟨v, h1, h2⟩ := repK_get (i := i) r (by simpa using e)
    exact ⟨v, by simpa using h1, h2⟩
theorem valD_none {kvs : List (κ × D)} {k : κ} : valD kvs k = none ↔ k ∉ kvs.map (·.1) := by
  unfold valD
  rw [Option.map_eq_none_iff, List.find?_eq_none, List.mem_map]
  constructor
  · rintro h ⟨p, hp, rfl⟩; exact h p hp (decide_eq_true rfl)
  · intro h p hp z; exact h ⟨p, hp, of_decide_eq_true z⟩
theorem valD_some {kvs : List (κ × D)} {k : κ} {d : D} (h : valD kvs k = some d) : (k, d) ∈ kvs := by
  unfold valD at h
  obtain ⟨p, hp, rfl⟩ := Option.map_eq_some_iff.mp h
  have e := List.find?_some hp
  have e : p.1 = k := of_decide_eq_true e
  have m := List.mem_of_find?_eq_some hp
  rw [← e]; exact m
theorem putD_new {kvs : List (κ × D)} {k : κ} {d : D} (h : k ∉ kvs.map (·.1)) : putD kvs k d = kvs ++ [(k, d)] := by
  unfold putD
  rw [if_neg]
  intro z
  obtain ⟨p, hp, e⟩ := List.any_eq_true.mp z
  exact h (List.mem_map.mpr ⟨p, hp, of_decide_eq_true e⟩)
theorem putD_keys {kvs : List (κ × D)} {k : κ} {d : D} : (putD kvs k d).map (·.1) = if k ∈ kvs.map (·.1) then kvs.map (·.1) else kvs.map (·.1) ++ [k] := by
  unfold putD
  have e : (kvs.any fun p => decide (p.1 = k)) = true ↔ k ∈ kvs.map (·.1) := by
    rw [List.any_eq_true, List.mem_map]
    exact ⟨fun ⟨p, h1, h2⟩ => ⟨p, h1, of_decide_eq_true h2⟩, fun ⟨p, h1, h2⟩ => ⟨p, h1, decide_eq_true h2⟩⟩
  by_cases h : k ∈ kvs.map (·.1)
  · rw [if_pos (e.mpr h), if_pos h, List.map_map]
    refine List.map_congr_left fun p _ => ?_
    show (if p.1 = k then (p.1, d) else p).1 = p.1
    split <;> rfl
  · rw [if_neg (fun z => h (e.mp z)), if_neg h, List.map_append]; rfl
theorem putD_nodup {kvs : List (κ × D)} {k : κ} {d : D} (h : (kvs.map (·.1)).Nodup) : ((putD kvs k d).map (·.1)).Nodup := by
  rw [putD_keys]
  split
  · exact h
  · rename_i n
    exact List.nodup_append.mpr ⟨h, List.nodup_cons.mpr ⟨by simp, List.nodup_nil⟩, fun a ha b hb => by
      rw [List.mem_singleton.mp hb]; exact fun z => n (z ▸ ha)⟩
theorem putD_len {kvs : List (κ × D)} {k : κ} {d : D} : kvs.length ≤ (putD kvs k d).length ∧ (putD kvs k d).length ≤ kvs.length + 1 := by
  have e := congrArg List.length (putD_keys (kvs := kvs) (k := k) (d := d))
  rw [List.length_map] at e
  rw [e]
  split <;> simp
theorem putD_mem {kvs : List (κ × D)} {k : κ} {d : D} {p : κ × D} (h : p ∈ putD kvs k d) : p = (k, d) ∨ p ∈ kvs := by
  unfold putD at h
  split at h
  · obtain ⟨q, hq, rfl⟩ := List.mem_map.mp h
    split
    · rename_i e; exact .inl (by rw [e])
    · exact .inr hq
  · rcases List.mem_append.mp h with h | h
    · exact .inr h
    · exact .inl (List.mem_singleton.mp h)
theorem valD_nodup {kvs : List (κ × D)} (nd : (kvs.map (·.1)).Nodup) {k : κ} {d : D} (h : (k, d) ∈ kvs) : valD kvs k = some d := by
  induction kvs with
  | nil => cases h
  | cons p r ih =>
    rw [List.map_cons, List.nodup_cons] at nd
    unfold valD
    rw [List.find?_cons]
    rcases List.mem_cons.mp h with e | e
    · rw [← e, decide_eq_true rfl]; rfl
    · rw [decide_eq_false (p := p.1 = k) (fun z => nd.1 (List.mem_map.mpr ⟨_, e, z.symm⟩))]
      exact ih nd.2 e
end
/-! ### d[y], y in d: a key that is a tuple may be any known tuple -/
def DGetS (K : Fg) (H : Hp) (a : Addr) (y : V) (r : Option V) : Prop := (∃ kvs k, Rd H a (.dK kvs) ∧ y = kV k ∧ r = valV kvs k) ∨ ∃ kvs k b, Rd H a (.dT kvs) ∧ y = .ref b ∧ SqT K H b (k.map kV) ∧ r = valV kvs k
section
variable {X : Cx} {pins : List (Addr × Obj)} {σ : L2.St} {H : Hp} {s : Shared} {a b : Addr} {y v : V} {u : Value} {o : Option V}
theorem keyS_of {ks : List Key} (I : Inv X pins σ H s) (e : SqT X.K H b (ks.map kV)) : (tupleKind (mixKind X.prog X.w)).is s.heap ks b := by
  obtain ⟨its, r, ⟨o, h1, h2, n, h3⟩, _⟩ := I.tuple e
  exact ⟨o, its.toArray, n, h1, h2, h3, by simpa using items_are r⟩
theorem dS_typeIs (I : Inv X pins σ H s) (g : DGetS X.K H a y o) : s.TypeIs (.ref a) "dict" := by
  rcases g with ⟨kvs, k, e, _⟩ | ⟨kvs, k, b, e, _⟩
  · obtain ⟨_, _, _, _, dd⟩ := dk_rd I.hok e; exact dd.typeIs
  · obtain ⟨_, _, _, _, dd⟩ := dt_rd I.hok e; exact dd.typeIs
theorem dS_get {Q : Value → Shared → Prop} (hu : X.A.units + 1 < cLine) (I : Inv X pins σ H s) (g : DGetS X.K H a y (some v)) (ry : RelV y u) (h : ∀ w' s', Inv X pins σ H s' → RelV v w' → Q w' s') : wpAny (model X.prog X.w) X.A (getItem (.ref a) u) Q X.xe s := by
  rcases g with ⟨kvs, k, e, ey, l⟩ | ⟨kvs, k, b, e, rfl, eb, l⟩
  · exact d_getItem hu I (.inl ⟨kvs, k, e, ey, l⟩) ry h
  · cases (show u = Value.ref b from ry)
    obtain ⟨_, _, xs, rel, dd⟩ := dt_rd I.hok e
    have q := rel.val k
    rw [← l] at q
    obtain ⟨w', hw, rw'⟩ := RelO.some_of q
    obtain ⟨p, hp, rfl⟩ := Option.map_eq_some_iff.mp hw
    exact wpAny_getItem_heap (tupleKind_room_in1 hu) (keyS_of I eb) dd hp (h _ _ (I.tok _) rw')
theorem dS_in (neg : Bool) {Q : Value → Shared → Prop} (hu : X.A.units + 1 < cLine) (I : Inv X pins σ H s) (g : DGetS X.K H a y o) (ry : RelV y u) (h : ∀ s', Inv X pins σ H s' → Q (.bool (if neg then !o.isSome else o.isSome)) s') :
    wpAny (model X.prog X.w) X.A (compareOp (if neg then .NotIn else .In) u (.ref a)) Q X.xe s := by
  rcases g with ⟨kvs, k, e, ey, l⟩ | ⟨kvs, k, b, e, rfl, eb, l⟩
  · cases neg
    · exact d_in hu I (.inl ⟨kvs, k, e, ey, l⟩) ry h
    · exact d_notIn hu I (.inl ⟨kvs, k, e, ey, l⟩) ry h
  · cases (show u = Value.ref b from ry)
    obtain ⟨_, hd, xs, rel, dd⟩ := dt_rd I.hok e
    have q := (rel.val k).isSome_eq
    rw [Option.isSome_map, ← l] at q
    cases neg
    · refine wpAny_in_heap (tupleKind_room_in1 hu) (keyS_of I eb) hd dd ?_
      rw [← q]; exact h _ (I.tok _)
    · refine wpAny_notIn_heap (tupleKind_room_in1 hu) (keyS_of I eb) hd dd ?_
      rw [← q]; exact h _ (I.tok _)
end
def tDGetS (K : Fg) (td ty : TE) : TE := fun σ H Q => td σ H fun x H1 => ty σ H1 fun y H2 => ∃ a v, x = .ref a ∧ DGetS K H2 a y (some v) ∧ Q v H2
def tDInS (K : Fg) (neg : Bool) (ty td : TE) : TE := fun σ H Q => ty σ H fun y H1 => td σ H1 fun x H2 => ∃ a o, x = .ref a ∧ DGetS K H2 a y o ∧ Q (.bl (if neg then !o.isSome else o.isSome)) H2
section
variable {X : Cx} {o i : Expr} {pos : Pos} {td ty : TE}
theorem pe_dgetS (hu : X.A.units + 1 < cLine) (ho : PE X o td) (hi : PE X i ty) (hs : NoSl i) : PE X (.Subscript o i pos) (tDGetS X.K td ty) := by
  refine ⟨fun pins s σ H Q I h => subD_of PySem.F.slot_dict_getitem.lookup hs (thn (ho.run pins s σ H _ I h) fun u s1 ⟨x, H1, I1, rx, q1⟩ => thn (hi.run pins s1 σ H1 _ I1 q1) fun iv s2 ⟨y, H2, I2, ry, a, v, ex, g, q2⟩ => ?_)⟩
  subst ex
  obtain rfl : u = Value.ref a := rx
  exact ⟨dS_typeIs I2 g, dS_get hu I2 g ry fun w' s3 I3 rw' => ⟨v, H2, I3, rw', q2⟩⟩
theorem pc_dinS (neg : Bool) (hu : X.A.units + 1 < cLine) (hi : PE X i ty) (ho : PE X o td) : PC X (if neg then .NotIn else .In) i o (tDInS X.K neg ty td) := by
  refine ⟨fun pins s σ H Q I h => thn (hi.run pins s σ H _ I h) fun iv s1 ⟨y, H1, I1, ry, q1⟩ => thn (ho.run pins s1 σ H1 _ I1 q1) fun u s2 ⟨x, H2, I2, rx, a, ov, ex, g, q2⟩ => ?_⟩
  subst ex
  obtain rfl : u = Value.ref a := rx
  refine dS_in neg hu I2 g ry fun s3 I3 => ⟨_, H2, I3, ?_, q2⟩
  cases neg <;> rfl
end
/-! ### a dict is known from now on -/
def tLk (td : TE) : TE := fun σ H Q => td σ H fun x H1 => (∃ d u, x = .ref d ∧ H1 d = some u ∧ Mut (some u) ∧ ∀ o, Q x (upd H1 d (.frz o u))) ∨ Q x H1
theorem pe_lk {X : Cx} {e : Expr} {td : TE} (he : PE X e td) : PE X e (tLk td) := by
  refine ⟨fun pins s σ H Q I h => thn (he.run pins s σ H _ I h) fun u s1 ⟨x, H1, I1, rx, q1⟩ => ?_⟩
  rcases q1 with ⟨d, w, rfl, hd, mu, q⟩ | q
  · obtain ⟨od, I2⟩ := I1.lock hd mu
    exact ⟨_, _, I2, rx, q od⟩
  · exact ⟨_, _, I1, rx, q⟩
/-! ### readings over data -/
section
variable {K : Fg}
def dkOf : Option Cell → Option (List (Key × D))
  | some (.dk kvs) => some kvs
  | some (.fk _ _ kvs) => some kvs
  | _ => none
def dtOf : Option Cell → Option (List (List Key × D))
  | some (.dt kvs) => some kvs
  | some (.ft _ _ kvs) => some kvs
  | _ => none
theorem dkOf_ok {z : Z} (k : z.Ok K) {a : Addr} {kvs : List (Key × D)} (h : dkOf (z.o a) = some kvs) : ∃ xs, Rd z.h a (.dK xs) ∧ RepK K z.d xs kvs := by
  unfold dkOf at h
  split at h
  · rename_i e; cases h
    obtain ⟨_, xs, h1, h2⟩ := k.cell _ _ e; exact ⟨xs, .inl h1, h2⟩
  · rename_i e; cases h
    obtain ⟨_, h1, h2⟩ := k.cell _ _ e; exact ⟨_, .inr ⟨_, h1⟩, h2⟩
  · cases h
theorem dtOf_ok {z : Z} (k : z.Ok K) {a : Addr} {kvs : List (List Key × D)} (h : dtOf (z.o a) = some kvs) : ∃ xs, Rd z.h a (.dT xs) ∧ RepK K z.d xs kvs := by
  unfold dtOf at h
  split at h
  · rename_i e; cases h
    obtain ⟨_, xs, h1, h2⟩ := k.cell _ _ e; exact ⟨xs, .inl h1, h2⟩
  · rename_i e; cases h
    obtain ⟨_, h1, h2⟩ := k.cell _ _ e; exact ⟨_, .inr ⟨_, h1⟩, h2⟩
  · cases h
def dgetW (x y : D) (ω : Om) (F : Option D → Prop) : Prop := match x, y with
  | .ref a, .tup ys => optW (dtOf (ω a)) fun kvs => optW (keysD ys) fun k => F (valD kvs k)
  | .ref a, y => optW (dkOf (ω a)) fun kvs => optW (keyD y) fun k => F (valD kvs k)
  | _, _ => False
theorem dgetW_ok {z : Z} (k : z.Ok K) {v u : V} {x y : D} {F : Option D → Prop} (r1 : Rep K z.d v x) (r2 : Rep K z.d u y) (h : dgetW x y z.o F) : ∃ a r rd, v = .ref a ∧ DGetS K z.h a u r ∧ F rd ∧ ((r = none ∧ rd = none) ∨ ∃ w d, r = some w ∧ rd = some d ∧ Rep K z.d w d) := by
  unfold dgetW at h
  split at h
  · cases r1
    obtain ⟨kvs, h1, h⟩ := optW_iff.mp h
    obtain ⟨kk, h2, h⟩ := optW_iff.mp h
    obtain ⟨xs, g1, g2⟩ := dtOf_ok k h1
    obtain ⟨b, ws, rfl, e1, e2⟩ := rep_tup r2
    rw [keysD_ok e2 h2] at e1
    exact ⟨_, valV xs kk, _, rfl, .inr ⟨xs, kk, b, g1, rfl, k.fz.sqt e1, rfl⟩, h, repK_val kk g2⟩
  · cases r1
    obtain ⟨kvs, h1, h⟩ := optW_iff.mp h
    obtain ⟨kk, h2, h⟩ := optW_iff.mp h
    obtain ⟨xs, g1, g2⟩ := dkOf_ok k h1
    exact ⟨_, valV xs kk, _, rfl, .inl ⟨xs, kk, g1, keyD_ok r2 h2, rfl⟩, h, repK_val kk g2⟩
  · exact h.elim
def bDget (o y : BE K) : BE K where
  t := fun W => tDGetS K (o.t W) (y.t W)
  w := fun ρ ω Φ Ψ => o.w ρ ω (fun x ω1 => y.w ρ ω1 (fun y ω2 => dgetW x y ω2 fun r => optW r fun d => Φ d ω2) Ψ) Ψ
  ok := fun W ρ z σ Q Φ Ψ h k r q qx => by
    refine o.ok W ρ z σ _ _ Ψ h k r (fun v z1 x t1 r1 h1 => ?_) qx
    refine y.ok W ρ z1 σ _ _ Ψ h1 t1.ok (r.mono t1.ex) (fun u z2 y t2 r2 h2 => ?_) fun x cls d z2 t2 => qx x cls d z2 (t1.trans t2)
    obtain ⟨a, rr, rd, rfl, g, f, m⟩ := dgetW_ok t2.ok (r1.mono t2.ex) r2 h2
    obtain ⟨d, rfl, f⟩ := optW_iff.mp f
    rcases m with ⟨_, m⟩ | ⟨w, d', rfl, e, rw'⟩
    · cases m
    · cases e
      exact ⟨a, w, rfl, g, q w z2 d (t1.trans t2) rw' f⟩
def bDin (neg : Bool) (y o : BE K) : BE K where
  t := fun W => tDInS K neg (y.t W) (o.t W)
  w := fun ρ ω Φ Ψ => y.w ρ ω (fun y ω1 => o.w ρ ω1 (fun x ω2 => dgetW x y ω2 fun r => Φ (.bl (if neg then !r.isSome else r.isSome)) ω2) Ψ) Ψ
  ok := fun W ρ z σ Q Φ Ψ h k r q qx => by
    refine y.ok W ρ z σ _ _ Ψ h k r (fun u z1 y t1 r1 h1 => ?_) qx
    refine o.ok W ρ z1 σ _ _ Ψ h1 t1.ok (r.mono t1.ex) (fun v z2 x t2 r2 h2 => ?_) fun x cls d z2 t2 => qx x cls d z2 (t1.trans t2)
    obtain ⟨a, rr, rd, rfl, g, f, m⟩ := dgetW_ok t2.ok r2 (r1.mono t2.ex) h2
    refine ⟨a, rr, rfl, g, q _ z2 _ (t1.trans t2) (.bl _) ?_⟩
    rcases m with ⟨rfl, rfl⟩ | ⟨w, d, rfl, rfl, _⟩ <;> exact f
/-- x[k] = v -/
def dputK (x y d : D) (ω : Om) (F : Om → Prop) : Prop := match x with
  | .ref a => cK (ω a) fun kvs => optW (keyD y) fun k => NeedW (kvs.length < 16777216) (F (ω.set a (.dk (putD kvs k d))))
  | _ => False
def cT (o : Option Cell) (F : List (List Key × D) → Prop) : Prop := match o with
  | some (.dt kvs) => F kvs
  | _ => False
theorem cT_iff {o : Option Cell} {F : List (List Key × D) → Prop} : cT o F ↔ ∃ kvs, o = some (.dt kvs) ∧ F kvs := by
  unfold cT
  constructor
  · split
    · intro h; exact ⟨_, rfl, h⟩
    · exact False.elim
  · rintro ⟨kvs, rfl, h⟩; exact h
theorem cK_iff {o : Option Cell} {F : List (Key × D) → Prop} : cK o F ↔ ∃ kvs, o = some (.dk kvs) ∧ F kvs := by
  unfold cK
  constructor
  · split
    · intro h; exact ⟨_, rfl, h⟩
    · exact False.elim
  · rintro ⟨kvs, rfl, h⟩; exact h
def dputT (x : D) (ys : List D) (d : D) (ω : Om) (F : Om → Prop) : Prop := match x with
  | .ref a => cT (ω a) fun kvs => optW (keysD ys) fun k => NeedW (kvs.length < 16777216 ∧ ys.length < 100) (F (ω.set a (.dt (putD kvs k d))))
  | _ => False
def bsDput (o y v : BE K) : BS K where
  t := fun W => sDPut (o.t W) (y.t W) (v.t W)
  w := fun ρ ω k => v.w ρ ω (fun d ω1 => o.w ρ ω1 (fun x ω2 => y.w ρ ω2 (fun y ω3 => dputK x y d ω3 fun ω4 => k.nx ρ ω4) fun x ω1 => k.xc x ρ ω1) fun x ω1 => k.xc x ρ ω1) fun x ω1 => k.xc x ρ ω1
  ok := fun W ρ z σ D' k h ok r hk => by
    refine v.ok W ρ z σ _ _ _ h ok r (fun vv z1 d t1 r1 h1 => ?_) (hk.qx r)
    refine o.ok W ρ z1 σ _ _ _ h1 t1.ok (r.mono t1.ex) (fun vx z2 x t2 r2 h2 => ?_) ((hk.to t1).qx (r.mono t1.ex))
    have t12 := t1.trans t2
    refine y.ok W ρ z2 σ _ _ _ h2 t2.ok (r.mono t12.ex) (fun vy z3 y t3 r3 h3 => ?_) ((hk.to t12).qx (r.mono t12.ex))
    have t13 := t12.trans t3
    unfold dputK at h3
    split at h3
    · cases r2
      obtain ⟨kvs, hc, h3⟩ := cK_iff.mp h3
      obtain ⟨kk, hkk, hl, h3⟩ := optW_iff.mp h3
      obtain ⟨_, xs, g1, g2⟩ := t3.ok.cell _ _ hc
      have rd := (r1.mono t2.ex).mono t3.ex
      have t := t3.ok.put (o := .dK (putK xs kk vv)) (c' := .dk (putD kvs kk d)) hc ⟨_, upd_same, repK_put rd g2⟩
      refine ⟨_, _, rfl, .inl ⟨xs, kk, g1, keyD_ok r3 hkk, by rw [repK_len g2, sizeLine_eq]; exact hl, rfl⟩, ?_⟩
      exact hk.nx σ ρ _ (t13.trans t) (r.mono (t13.trans t).ex) h3
    · exact h3.elim
/-- o[a, ..] = v, its key a tuple that is written there -/
def bsDputA (o : BE K) (y : BA K) (v : BE K) : BS K where
  t := fun W => sDPut (o.t W) (tTup (y.t W)) (v.t W)
  w := fun ρ ω k => v.w ρ ω (fun d ω1 => o.w ρ ω1 (fun x ω2 => y.w ρ ω2 (fun ys ω3 => dputT x ys d ω3 fun ω4 => k.nx ρ ω4) fun x ω1 => k.xc x ρ ω1) fun x ω1 => k.xc x ρ ω1) fun x ω1 => k.xc x ρ ω1
  ok := fun W ρ z σ D' k h ok r hk => by
    refine v.ok W ρ z σ _ _ _ h ok r (fun vv z1 d t1 r1 h1 => ?_) (hk.qx r)
    refine o.ok W ρ z1 σ _ _ _ h1 t1.ok (r.mono t1.ex) (fun vx z2 x t2 r2 h2 => ?_) ((hk.to t1).qx (r.mono t1.ex))
    have t12 := t1.trans t2
    refine y.ok W ρ z2 σ _ _ _ h2 t2.ok (r.mono t12.ex) (fun vy z3 ys t3 r3 h3 => ?_) ((hk.to t12).qx (r.mono t12.ex))
    have t13 := t12.trans t3
    unfold dputT at h3
    split at h3
    · cases r2
      obtain ⟨kvs, hc, h3⟩ := cT_iff.mp h3
      obtain ⟨kk, hkk, hl, h3⟩ := optW_iff.mp h3
      have rk := keysD_ok r3 hkk
      have hyl : vy.length ≤ sizeLine := by rw [r3.length, sizeLine_eq]; omega
      refine ⟨hyl, fun p hp => ?_⟩
      have ta := t3.ok.add (o := .tup vy) hp
      obtain ⟨_, xs, g1, g2⟩ := ta.ok.cell _ _ hc
      have rd := ((r1.mono t2.ex).mono t3.ex).mono ta.ex
      have t := ta.ok.put (o := .dT (putK xs kk vv)) (c' := .dt (putD kvs kk d)) hc ⟨_, upd_same, repK_put rd g2⟩
      refine ⟨_, _, rfl, .inr ⟨xs, kk, p, g1, rfl, by rw [← rk]; exact upd_same, by rw [repK_len g2, sizeLine_eq]; exact hl.1, rfl⟩, ?_⟩
      exact hk.nx σ ρ _ ((t13.trans ta).trans t) (r.mono ((t13.trans ta).trans t).ex) h3
    · exact h3.elim
/-- a tuple that is there stays -/
theorem Z.Ok.know {z : Z} (k : z.Ok K) {q : Addr} {xs : List V} (h : z.h q = some (.tup xs)) : To K z ⟨upd z.d q (.tup xs), z.h, z.o, z.t⟩ := by
  have nt : NT (.tup xs) := fun _ w => by cases w
  have ex : Exd z.d (upd z.d q (.tup xs)) := fun a o e => by
    by_cases g : a = q
    · rw [g, upd_same, ← h, ← g]; exact k.fz a o e
    · rw [upd_ne g]; exact e
  refine ⟨⟨fun a o e => ?_, fun a c e => ?_, k.tab, k.tk, nd_upd k.nd nt⟩, ex, fun a o e _ _ => e, fun a e => e, rfl, fun a e => .inl e, fun a e => ?_⟩
  · by_cases g : a = q
    · have e : upd z.d q (.tup xs) a = some o := e
      rw [g, upd_same] at e; cases e; rw [g]; exact h
    · have e : upd z.d q (.tup xs) a = some o := e
      rw [upd_ne g] at e; exact k.fz a o e
  · obtain ⟨c1, c2⟩ := k.cell a c e
    refine ⟨(upd_ne fun g => ?_).trans c1, c2.mono ex fun _ e => e⟩
    rw [g] at c2
    cases c with
    | lst ds => obtain ⟨_, e1, _⟩ := c2; rw [h] at e1; cases e1
    | dk ds => obtain ⟨_, e1, _⟩ := c2; rw [h] at e1; cases e1
    | dt ds => obtain ⟨_, e1, _⟩ := c2; rw [h] at e1; cases e1
    | ins c fs => obtain ⟨_, _, e1, _⟩ := c2; rw [h] at e1; cases e1
    | fk o ys ds => obtain ⟨e1, _⟩ := c2; rw [h] at e1; cases e1
    | ft o ys ds => obtain ⟨e1, _⟩ := c2; rw [h] at e1; cases e1
  · by_cases g : a = q
    · exact .inr (.inr (.inr ⟨_, by rw [g]; exact h, fun _ w => by cases w⟩))
    · have e : upd z.d q (.tup xs) a ≠ none := e
      rw [upd_ne g] at e; exact .inl e
theorem it_keys (z : Z) (a : Addr) (o : Obj) (xs : List (Key × V)) (kvs : List (Key × D)) : ItOk K (Itk a o xs) z (kvs.map fun p => kD p.1) fun ω => ω a = some (.fk o xs kvs) where
  go := fun i z1 t hc hi => by
    obtain ⟨_, h1, h2⟩ := t.ok.cell _ _ hc
    have hl := repK_len h2
    rw [List.length_map] at hi
    refine ⟨⟨h1, by omega⟩, fun x H' ⟨e1, k, v, e2, e3⟩ => ?_⟩
    obtain ⟨v', e4, _⟩ := repK_get (i := i) h2 (List.getElem?_eq_getElem hi)
    rw [e2] at e4
    cases e4
    exact ⟨z1, kD kvs[i].1, t.ok.to, e1.symm, rfl, by rw [List.getElem?_map, List.getElem?_eq_getElem hi]; rfl, by rw [e3]; exact kD_rep _⟩
  stop := fun i z1 t hc hi => by
    obtain ⟨_, h1, h2⟩ := t.ok.cell _ _ hc
    rw [List.length_map] at hi
    exact ⟨h1, by rw [repK_len h2]; exact hi⟩
theorem it_keysT (z : Z) (a : Addr) (o : Obj) (xs : List (List Key × V)) (kvs : List (List Key × D)) : ItOk K (Itkt a o xs) z (kvs.map fun p => .tup (p.1.map kD)) fun ω => ω a = some (.ft o xs kvs) where
  go := fun i z1 t hc hi => by
    obtain ⟨_, h1, h2⟩ := t.ok.cell _ _ hc
    have hl := repK_len h2
    rw [List.length_map] at hi
    refine ⟨⟨h1, by omega⟩, fun x H' ⟨e1, k, v, q, e2, e3, e5⟩ => ?_⟩
    obtain ⟨v', e4, _⟩ := repK_get (i := i) h2 (List.getElem?_eq_getElem hi)
    rw [e2] at e4
    cases e4
    subst e1 e3
    exact ⟨_, .tup (kvs[i].1.map kD), t.ok.know e5, rfl, rfl, by rw [List.getElem?_map, List.getElem?_eq_getElem hi]; rfl, .tup (SqT.of upd_same) (kDs_rep _)⟩
  stop := fun i z1 t hc hi => by
    obtain ⟨_, h1, h2⟩ := t.ok.cell _ _ hc
    rw [List.length_map] at hi
    exact ⟨h1, by rw [repK_len h2]; exact hi⟩
/-- the keys of a dict that no one writes from now on -/
def keysW (x : D) (ω : Om) (F : List D → (Om → Prop) → Om → Prop) : Prop := match x with
  | .ref a => (match ω a with
    | some (.dk kvs) => ∀ o xs, F (kvs.map fun p => kD p.1) (fun ω' => ω' a = some (.fk o xs kvs)) (ω.set a (.fk o xs kvs))
    | some (.dt kvs) => ∀ o xs, F (kvs.map fun p => .tup (p.1.map kD)) (fun ω' => ω' a = some (.ft o xs kvs)) (ω.set a (.ft o xs kvs))
    | some (.fk o xs kvs) => F (kvs.map fun p => kD p.1) (fun ω' => ω' a = some (.fk o xs kvs)) ω
    | some (.ft o xs kvs) => F (kvs.map fun p => .tup (p.1.map kD)) (fun ω' => ω' a = some (.ft o xs kvs)) ω
    | _ => False)
  | _ => False
def biKeys (e : BE K) : BI K where
  t := fun W => iKeys (tLk (e.t W))
  w := fun ρ ω Φ Ψ => e.w ρ ω (fun x ω1 => keysW x ω1 Φ) Ψ
  ok := fun W ρ z σ R Φ Ψ h o r q qx => by
    refine e.ok W ρ z σ _ _ Ψ h o r (fun v z1 d t1 r1 h1 => ?_) qx
    unfold keysW at h1
    split at h1
    · rename_i a
      cases r1
      split at h1
      · rename_i kvs hc
        obtain ⟨_, xs, g1, g2⟩ := t1.ok.cell _ _ hc
        refine .inl ⟨_, _, rfl, g1, trivial, fun ob => ⟨_, ob, rfl, .inl ⟨xs, upd_same, ?_⟩⟩⟩
        have t := t1.ok.put (o := .frz ob (.dK xs)) (c' := .fk ob xs kvs) hc ⟨upd_same, g2⟩
        exact q _ _ _ _ (t1.trans t) (it_keys _ _ ob xs kvs) (h1 ob xs)
      · rename_i kvs hc
        obtain ⟨_, xs, g1, g2⟩ := t1.ok.cell _ _ hc
        refine .inl ⟨_, _, rfl, g1, trivial, fun ob => ⟨_, ob, rfl, .inr ⟨xs, upd_same, ?_⟩⟩⟩
        have t := t1.ok.put (o := .frz ob (.dT xs)) (c' := .ft ob xs kvs) hc ⟨upd_same, g2⟩
        exact q _ _ _ _ (t1.trans t) (it_keysT _ _ ob xs kvs) (h1 ob xs)
      · rename_i ob xs kvs hc
        obtain ⟨_, g1, g2⟩ := t1.ok.cell _ _ hc
        exact .inr ⟨_, ob, rfl, .inl ⟨xs, g1, q _ z1 _ _ t1 (it_keys _ _ ob xs kvs) h1⟩⟩
      · rename_i ob xs kvs hc
        obtain ⟨_, g1, g2⟩ := t1.ok.cell _ _ hc
        exact .inr ⟨_, ob, rfl, .inr ⟨xs, g1, q _ z1 _ _ t1 (it_keysT _ _ ob xs kvs) h1⟩⟩
      · exact h1.elim
    · exact h1.elim
end
/-! ### rules -/
theorem hu_of {A : Around} {k : Nat} (hr : Room k A) : A.units + 1 < cLine := by have := hr.un; omega
section
variable {X : Cx} {W : WX} {a b c e : Expr} {es : List Expr} {O Y V' : BE X.K} {As : BA X.K} {pos p pos' : Pos}
theorem P_dget (hu : X.A.units + 1 < cLine) (ho : PE X a (O.t W)) (hi : PE X b (Y.t W)) (hs : NoSl b := by exact fun _ _ => rfl) : PE X (.Subscript a b pos) ((bDget O Y).t W) := pe_dgetS hu ho hi hs
theorem P_din (hu : X.A.units + 1 < cLine) (hi : PE X b (Y.t W)) (ho : PE X a (O.t W)) (hm : behindInMarks .In a = false := by first | exact nomark _ | rfl) : PE X (.Compare b [.In] [a] pos) ((bDin false Y O).t W) := pe_cmp (pc_dinS false hu hi ho) hm
theorem T_din (hu : X.A.units + 1 < cLine) (hi : PE X b (Y.t W)) (ho : PE X a (O.t W)) (hm : behindInMarks .In a = false := by first | exact nomark _ | rfl) : PT X (.Compare b [.In] [a] pos) ((btB (bDin false Y O)).t W) := pt_cmp (pc_dinS false hu hi ho) hm
theorem P_dnin (hu : X.A.units + 1 < cLine) (hi : PE X b (Y.t W)) (ho : PE X a (O.t W)) (hm : behindInMarks .NotIn a = false := by first | exact nomark _ | rfl) : PE X (.Compare b [.NotIn] [a] pos) ((bDin true Y O).t W) := pe_cmp (pc_dinS true hu hi ho) hm
theorem T_dnin (hu : X.A.units + 1 < cLine) (hi : PE X b (Y.t W)) (ho : PE X a (O.t W)) (hm : behindInMarks .NotIn a = false := by first | exact nomark _ | rfl) : PT X (.Compare b [.NotIn] [a] pos) ((btB (bDin true Y O)).t W) := pt_cmp (pc_dinS true hu hi ho) hm
theorem S_dput (hu : X.A.units + 1 < cLine) (ho : PE X a (O.t W)) (hi : PE X b (Y.t W)) (hv : PE X c (V'.t W)) (hs : swapsWith c (some (.Subscript a b pos')) pos.line X.env = pure false := by rfl) : PS X (.Assign [.Subscript a b pos'] c pos) ((bsDput O Y V').t W) := ps_dput hu ho hi hv hs
theorem S_dputA {x1 : _} (hu : X.A.units + 1 < cLine) (ho : PE X a (O.t W)) (hi : PA X es (As.t W)) (hv : PE X c (V'.t W)) (hs : swapsWith c (some (.Subscript a (.Tuple es x1 p) pos')) pos.line X.env = pure false := by rfl) : PS X (.Assign [.Subscript a (.Tuple es x1 p) pos'] c pos) ((bsDputA O As V').t W) := ps_dput hu ho (pe_tup hi) hv hs
theorem I_keys {tg : Expr} (h : PE X e (O.t W)) : PI X tg e ((biKeys O).t W) := pi_keys (pe_lk h)
end
section
variable {K : Fg} {O Y V' : BE K} {As : BA K} {ρ : List D} {ω : Om} {Φ : D → Om → Prop} {Ψ : List Nat → List D → Om → Prop} {k : KD}
end
end T

/-! sorted(set(..)) of texts. -/
namespace T
open PySem PySem.Spec PyProof.Rows L2 PySem.Froz
/-! ### a set of texts whose table rises -/
def SetT (P : Program) (w : World) (h : Heap) (a : Addr) (l : List Str) : Prop := ∃ D : SD, h.get? a = some (sObj "set" D) ∧ TxOk P w D l ∧ Ris D.2.2.place.toList ∧ (w.params.followText "set-order" = true ∨ D.2.2.led = true)
theorem tail_ris {ep : Nat} {es1 : Array (Int × Value)} {t2 : SetTable} {wd : Bool} (hr : Ris t2.place.toList) : Ris (tailTx ep es1 t2 wd).2.2.place.toList ∧ (tailTx ep es1 t2 wd).2.2.led = t2.led := by
  unfold tailTx
  split
  · exact ⟨relayAll_ris _ _ _, relayAll_led _ _ _⟩
  · exact ⟨hr, rfl⟩
theorem addTx_ris {h : Int} {v : Value} {D : SD} (hr : Ris D.2.2.place.toList) : Ris (addTx h v D).2.2.place.toList ∧ (addTx h v D).2.2.led = D.2.2.led := by
  have h1 := layNew_ris D.2.2 D.1 h v hr
  have h2 := layNew_led D.2.2 D.1 h v
  unfold addTx
  generalize layNew D.2.2 D.1 h v = Z at h1 h2 ⊢
  refine ⟨(tail_ris ?_).1, (tail_ris ?_).2.trans ?_⟩
  · split <;> exact h1
  · split <;> exact h1
  · split <;> exact h2
section
variable {P : Program} {w : World} {A : Around} {E : Value → Shared → Prop} {s : Shared}
theorem SetT.at {h h' : Heap} {a : Addr} {l : List Str} (S : SetT P w h a l) (k : ∀ o, h.get? a = some o → h'.get? a = some o) : SetT P w h' a l := by
  obtain ⟨D, ho, r⟩ := S
  exact ⟨D, k _ ho, r⟩
theorem setT_add {a : Addr} {l : List Str} {k : Str} {u : Tok} {Q : Bool → Shared → Prop} (S : SetT P w s.heap a l) (hb : l.length + 1 < scanBound)
    (h : ∀ h' b, Heap.SameBut a s.heap h' → SetT P w h' a (if k ∈ l then l else k :: l) → Q b { s with heap := h' }) : wpAny (model P w) A (setAddHashed a (.str k u) (hashStr w k)) Q E s := by
  obtain ⟨D, ho, F, hr, hl⟩ := S
  by_cases c : k ∈ l
  · rw [if_pos c] at h
    obtain ⟨es, ep, t⟩ := D
    have hsz : es.size = l.length := F.sz
    unfold setAddHashed setAddHashedIn
    refine wpAny_holding (wpAny_bind (wpAny_setState_of ho rfl F.fit ?_))
    dsimp only
    rw [byScan_of rfl (by rw [hsz]; omega) F.el]
    simp only [↓reduceIte]
    unfold setAddByScan
    refine wpAny_bind (wpAny_bind (wpAny_rule (wpAny_bind (wpAny_setScan_of (knd := strKind P w) (k := k) (is_str k u) ho rfl F.fit F.el ?_))))
    cases hfi : List.findIdx? (fun e => (strKind P w).is k e.2) es.toList with
    | some j =>
      dsimp only
      exact wpAny_pure (wpAny_pure (h s.heap _ (Heap.SameBut.refl a s.heap) ⟨_, ho, F, hr, hl⟩))
    | none =>
      obtain ⟨e, he, q⟩ := (F.mem k).mp c
      have z := List.findIdx?_eq_none_iff.mp hfi e he
      rw [q] at z
      cases z
  · rw [if_neg c] at h
    have r := addTx_ris (h := hashStr w k) (v := .str k u) hr
    refine add_x ho F c hb (h _ _ (Heap.SameBut.update s.heap a _) ⟨_, get_upd _ ho rfl, add_ok u F, r.1, hl.imp id fun z => by rw [r.2]; exact z⟩)
theorem uqStep_rev (acc : List Str) (x : Str) : (uqStep acc x).reverse = if x ∈ acc.reverse then acc.reverse else x :: acc.reverse := by
  unfold uqStep
  have e : (acc.any (· == x)) = true ↔ x ∈ acc.reverse := by
    rw [List.mem_reverse, List.any_eq_true]
    exact ⟨fun ⟨y, h1, h2⟩ => eq_of_beq h2 ▸ h1, fun h => ⟨x, h, beq_self_eq_true x⟩⟩
  by_cases c : x ∈ acc.reverse
  · rw [if_pos c, if_pos (e.mpr c)]
  · rw [if_neg c, if_neg (fun z => c (e.mp z)), List.reverse_append]; rfl
end
theorem uq_mem {α : Type} [BEq α] [LawfulBEq α] (xs : List α) : ∀ k : α, k ∈ uq xs ↔ k ∈ xs := by
  induction xs using snoc_ind with
  | h0 => exact fun _ => Iff.rfl
  | h1 xs x ih =>
    intro k
    rw [uq_snoc, List.mem_append, List.mem_singleton]
    unfold uqStep
    split
    · rename_i c
      obtain ⟨y, h1, h2⟩ := List.any_eq_true.mp c
      rw [ih k]
      exact ⟨.inl, fun h => h.elim id fun e => by rw [e, ← eq_of_beq h2]; exact (ih y).mp h1⟩
    · rw [List.mem_append, List.mem_singleton, ih k]
theorem uq_nodup {α : Type} [BEq α] [LawfulBEq α] (xs : List α) : (uq xs).Nodup := by
  induction xs using snoc_ind with
  | h0 => exact List.nodup_nil
  | h1 xs x ih =>
    rw [uq_snoc]
    unfold uqStep
    split
    · exact ih
    · rename_i c
      refine List.nodup_append.mpr ⟨ih, List.nodup_cons.mpr ⟨by simp, List.nodup_nil⟩, fun a ha b hb => ?_⟩
      rw [List.mem_singleton.mp hb]
      exact fun z => c (List.any_eq_true.mpr ⟨a, ha, by rw [z]; exact beq_self_eq_true x⟩)
section
variable {prog : Program} {w : World} {A : Around} {R : Result → Shared → Prop} {I : Addr} {fp wr : List Addr} {G : Array GenState → Array GenState → Prop} {n : Nat} {P : Nat → Value → Prop} {St : Nat → Shared → Prop}
theorem loopT (W : WalksS prog w A.in1 I fp wr G n P St) (S : Addr) (hSf : S ∉ fp) (xs : List Str) (hsz : xs.length = n) (hb : n + 1 < scanBound) (hval : ∀ i v, P i v → ∃ x t, xs[i]? = some x ∧ v = .str x t) :
    ∀ (k i : Nat) (s : Shared), n - i = k → i ≤ n → St i s → SetT prog w s.heap S (uq (xs.take i)).reverse →
      (∀ s', Moved (S :: wr) G s s' → SetT prog w s'.heap S (uq xs).reverse → R (.ok (.ret .none)) s') →
      codeAny (model prog w) A (.builtin "set.update.loop" ⟨[.ref S, .ref I], []⟩) R s
  | 0, i, s, hk, hi, hst, hS, hR => by
    obtain rfl : i = n := by omega
    rw [← hsz, List.take_length] at hS
    refine codeAny_builtin PyProof.Rows.F.entry_set_update_loop (by
      rw [Around.under_plainId PyProof.Rows.F.plain_set_update_loop _]
      exact wpAny_bind (m := pyNext (.ref I)) (W.done s _ _ hst fun s' hm => wpAny_pure (hR s' (hm.mono fun b hb => List.mem_cons_of_mem _ hb) (hS.at fun o e => hm.heap S _ (fun h => hSf (W.sub _ h)) e))))
  | k + 1, i, s, hk, hi, hst, hS, hR => by
    have hlt : i < n := by omega
    have sub : ∀ b ∈ wr, b ∈ S :: wr := fun b hb => List.mem_cons_of_mem _ hb
    refine codeAny_builtin PyProof.Rows.F.entry_set_update_loop ?_
    rw [Around.under_plainId PyProof.Rows.F.plain_set_update_loop _]
    refine wpAny_bind (m := pyNext (.ref I)) (W.item i s _ _ hlt hst fun v s' hP hst' hm => ?_)
    obtain ⟨x, t, hx, rfl⟩ := hval i v hP
    have hS1 : SetT prog w s'.heap S (uq (xs.take i)).reverse := hS.at fun o e => hm.heap S _ (fun h => hSf (W.sub _ h)) e
    refine wpAny_bind (m := holding [Value.str x t] (setAdd S (.str x t))) (wpAny_holding ?_)
    unfold setAdd
    refine wpAny_holding (wpAny_bind ((PySem.strKind prog w).pyHash (k := x) (strKind_is _ _ _ _) ?_))
    have room : (uq (xs.take i)).reverse.length + 1 < scanBound := by
      have h1 := uq_le (xs.take i)
      rw [List.length_take] at h1
      rw [List.length_reverse]
      have : min i xs.length ≤ n := by rw [hsz]; exact Nat.min_le_right _ _
      omega
    refine setT_add (s := { s' with toks := s'.toks + 1 }) hS1 room fun h' _ hsb hS2 => ?_
    have et : xs.take (i + 1) = xs.take i ++ [x] := by rw [List.take_succ, hx]; rfl
    have hS3 : SetT prog w h' S (uq (xs.take (i + 1))).reverse := by rw [et, uq_snoc, uqStep_rev]; exact hS2
    refine wpAny_pure ⟨plainId_quiet PyProof.Rows.F.plain_set_update_loop _, loopT W S hSf xs hsz hb hval k (i + 1) _ (by omega) hlt (W.frame _ s' _ _ hst' (Nat.le_succ _) fun b hb o e => ?_) hS3 fun s2 hm2 h2 => hR s2 (Moved.trans W.gtrans ((hm.mono sub).then_heap (Nat.le_succ _) fun b o hb e => ?_) hm2) h2⟩
    · rw [hsb.2 b fun z => hSf (z ▸ hb)]; exact e
    · rw [hsb.2 b fun z => hb (z ▸ List.mem_cons_self)]; exact e
end
section
variable {prog : Program} {w : World} {A : Around} {E : Value → Shared → Prop} {s : Shared}
set_option maxHeartbeats 3200000 in
theorem call_set_listT {l : Addr} {items : Array Value} {xs : List Str} {Q : Value → Shared → Prop} (hh : A.handled = none) (hl : s.heap.IsList l items) (hi : StrsAre items.toList xs) (hb : xs.length + 1 < scanBound)
    (h : ∀ (h' : Heap) (tk : Nat), SetT prog w h' s.heap.objs.size (uq xs).reverse → (∀ b o, b < s.heap.objs.size → s.heap.get? b = some o → h'.get? b = some o) → Q (.ref s.heap.objs.size) { s with heap := h', toks := tk }) :
    wpAny (model prog w) A (call (.type "set") [.ref l]) Q E s := by
  obtain ⟨c, tl, hmro⟩ := PySem.F.called_set.mro
  have f1 := PySem.F.called_set.made
  have f2 := PySem.F.called_set.sub
  have f3 := PySem.F.called_set.notType
  have f4 := PySem.F.called_set.canCreate
  have f5 := PySem.F.typeCall_set_1 (.ref l)
  refine wpAny_call (codeAny_of_tree ?_)
  show wpAny _ _ (callAny (.type "set") _) _ _ _
  refine wpAny_pure ⟨Code.quiet_builtin _ (by decide +kernel), codeAny_builtin PySem.F.entry_type_call ?_⟩
  rw [Around.under_plain (weight_type_call_type "set" [.ref l] []) rfl]
  repeat (any_goals (first | assumption | wp_step))
  refine codeAny_mono (code_set_led1 (.ref l) (E := E) (Q₁ := fun obj s₁ => obj = .ref s.heap.objs.size ∧ s₁ = { s with heap := s.heap.push { cls := .type "set", dict := none, data := .set #[] 0 (.fresh 0 0 (!w.params.followText "set-order")) } }) ⟨rfl, rfl⟩) fun r s₁ hr => ?_
  match r, hr with
  | .error e, hr => exact hr
  | .ok .next, hr => exact hr.elim
  | .ok .brk, hr => exact hr.elim
  | .ok .cont, hr => exact hr.elim
  | .ok (.ret obj), hr =>
  obtain ⟨rfl, rfl⟩ := hr
  have hled : w.params.followText "set-order" = true ∨ (!w.params.followText "set-order") = true := by cases w.params.followText "set-order" <;> simp
  generalize (!w.params.followText "set-order") = led at hled
  have hS : (s.heap.push { cls := .type "set", dict := none, data := .set #[] 0 (.fresh 0 0 led) }).get? s.heap.objs.size = some { cls := .type "set", dict := none, data := .set #[] 0 (.fresh 0 0 led) } := Heap.get?_push_size _ rfl
  have hT : Shared.TypeIs { s with heap := s.heap.push { cls := .type "set", dict := none, data := .set #[] 0 (.fresh 0 0 led) } } (.ref s.heap.objs.size) "set" := ⟨_, hS, rfl⟩
  have f6 := PySem.F.called_set.init.lookup
  have f7 := PySem.F.called_set.init.bind (.ref s.heap.objs.size)
  repeat (any_goals (first | assumption | wp_step))
  refine codeAny_mono (codeAny_call_builtin (R := wants (fun r s₂ => r = .none ∧ ∃ h' tk, s₂ = { s with heap := h', toks := tk } ∧ SetT prog w h' s.heap.objs.size (uq xs).reverse ∧
      (∀ b o, b < s.heap.objs.size → s.heap.get? b = some o → h'.get? b = some o)) E) PySem.F.called_set.init.plain PySem.F.entry_set_init (check_set_init_1 hT ?_)) fun r₂ s₂ hr₂ => ?_
  · obtain ⟨ol, hol, hcl, nl, hdl⟩ := hl
    obtain ⟨ocls, odict, odata, oslots⟩ := ol
    dsimp only at hcl hdl
    subst hcl hdl
    have hol' : (s.heap.push { cls := .type "set", dict := none, data := .set #[] 0 (.fresh 0 0 led) }).get? l = some { cls := .type "list", dict := odict, data := .seq items nl, slots := oslots } := Heap.get?_push_of_some _ hol
    have g1 := PySem.F.sub_list_set
    have g2 := PySem.F.sub_list_frozenset
    have g3 : (Value.type "list" == Value.type "dict") = false := by decide
    have hl1 : (s.heap.push { cls := .type "set", dict := none, data := .set #[] 0 (.fresh 0 0 led) }).IsList l items := ⟨_, hol', rfl, nl, rfl⟩
    unfold Builtin.«set.__init__» noKeywords Builtin.Frozenset.updateFrom
    generalize hPI : pyIter = PI
    wp_walk
    subst hPI
    have lS : l < s.heap.objs.size := Heap.lt_size hol
    have szP : (s.heap.push { cls := .type "set", dict := none, data := .set #[] 0 (.fresh 0 0 led) }).objs.size = s.heap.objs.size + 1 := Heap.size_push _ _
    refine wpAny_pyIter_list hl1 (wpAny_bind (wpAny_runValue ?_))
    have hsz : xs.length = items.size := by rw [← StrsAre.len_eq hi, Array.length_toList]
    refine loopT ((Walks.list (by simp [hh]) _ l (by rw [szP]; exact Nat.ne_of_lt (Nat.lt_succ_of_lt lS)) items).toS) s.heap.objs.size (by rw [szP]; simp only [List.mem_cons, List.not_mem_nil, or_false, not_or]; exact ⟨Nat.ne_of_lt (Nat.lt_succ_self _), Nat.ne_of_gt lS⟩) xs hsz (by rw [← hsz]; exact hb) (fun i v hv => strs_ith hi (by rw [Array.getElem?_toList]; exact hv)) (items.size - 0) 0 _ (by omega) (Nat.zero_le _)
      ⟨⟨_, Heap.get?_push_size _ rfl, rfl, rfl⟩, hl1.push _⟩ ?_ fun s' hm hS' => ?_
    · exact ⟨(#[], 0, .fresh 0 0 led), Heap.get?_push_of_some _ hS, TxOk.nil rfl, List.Pairwise.nil, hled⟩
    · obtain ⟨h', g', d', tk', os'⟩ := s'
      obtain rfl : g' = s.gens := hm.gens
      obtain rfl : d' = s.drawn := hm.drawn
      obtain rfl : os' = s.os := hm.os
      show wpAny _ _ _ _ _ _
      refine wpAny_pure ?_
      show wpAny _ _ (ret Value.none) _ _ _
      refine wpAny_pure ⟨rfl, h', tk', rfl, hS', fun b o hb' e => hm.heap b o ?_ (Heap.get?_push_of_some _ (Heap.get?_push_of_some _ e))⟩
      intro hm'
      rw [szP] at hm'
      simp only [List.mem_cons, List.not_mem_nil, or_false] at hm'
      rcases hm' with hm' | hm'
      · exact absurd hm' (Nat.ne_of_lt hb')
      · exact absurd hm' (Nat.ne_of_lt (Nat.lt_succ_of_lt hb'))
  · match r₂, hr₂ with
    | .error e, hr₂ => exact hr₂
    | .ok .next, hr₂ => exact hr₂.elim
    | .ok .brk, hr₂ => exact hr₂.elim
    | .ok .cont, hr₂ => exact hr₂.elim
    | .ok (.ret r), hr₂ =>
      obtain ⟨rfl, h', tk, rfl, hS', hk'⟩ := hr₂
      repeat (any_goals (first | assumption | wp_step))
      exact h _ _ hS' hk'
/-! ### sorted -/
theorem txts_of {es : List (Int × Value)} {l : List Str} : ∀ {vs : List Value}, (∀ v ∈ vs, ∃ x t, v = Value.str x t) → ∃ xs, StrsAre vs xs ∧ ∀ x, x ∈ xs ↔ ∃ t, Value.str x t ∈ vs
  | [], _ => ⟨[], .nil, fun x => by simp⟩
  | v :: vs, h => by
    obtain ⟨xs, h1, h2⟩ := txts_of (es := es) (l := l) (vs := vs) fun u hu => h u (List.mem_cons_of_mem _ hu)
    obtain ⟨x, t, rfl⟩ := h v List.mem_cons_self
    refine ⟨x :: xs, .cons _ _ h1, fun y => ?_⟩
    rw [List.mem_cons, h2 y]
    constructor
    · rintro (rfl | ⟨t', ht⟩)
      · exact ⟨t, List.mem_cons_self⟩
      · exact ⟨t', List.mem_cons_of_mem _ ht⟩
    · rintro ⟨t', ht⟩
      rcases List.mem_cons.mp ht with e | e
      · cases e; exact .inl rfl
      · exact .inr ⟨t', e⟩
theorem perm_of_len {α : Type} [BEq α] [LawfulBEq α] : ∀ {l m : List α}, l.Nodup → (∀ x ∈ l, x ∈ m) → m.length ≤ l.length → l.Perm m
  | [], m, _, _, h => by
    have : m = [] := List.eq_nil_of_length_eq_zero (Nat.le_zero.mp h)
    rw [this]
  | x :: l, m, nd, sub, h => by
    obtain ⟨n1, n2⟩ := List.nodup_cons.mp nd
    have hx := sub x List.mem_cons_self
    have hl := List.length_erase_of_mem hx
    refine (List.Perm.cons x (perm_of_len n2 (fun y hy => (List.mem_erase_of_ne fun e : y = x => n1 (e ▸ hy)).mpr (sub y (List.mem_cons_of_mem _ hy))) ?_)).trans (List.perm_cons_erase hx).symm
    rw [hl]
    simp only [List.length_cons] at h
    omega
def strOf (v : Value) (x : Str) : Prop := ∃ t, v = .str x t
theorem strs_each : ∀ {vs : List Value} {xs : List Str}, StrsAre vs xs → PySem.W.EachIs strOf vs xs
  | _, _, .nil => .nil
  | _, _, .cons _ t r => .cons ⟨t, rfl⟩ (strs_each r)
theorem each_strs : ∀ {vs : List Value} {xs : List Str}, PySem.W.EachIs strOf vs xs → StrsAre vs xs
  | _, _, .nil => .nil
  | _, _, .cons ⟨t, e⟩ r => by subst e; exact .cons _ t (each_strs r)
theorem sorted_txt {a : Addr} {l : List Str} {Q : Value → Shared → Prop} (S : SetT prog w s.heap a l) (nd : l.Nodup) (hh : A.handled = none) (hb : l.length < scanBound) (hu : A.units + 10 < cLine)
    (hQ : ∀ s' p (out : Array Value) (c : Nat) (ts : List Str), (∀ b o, s.heap.get? b = some o → s'.heap.get? b = some o) → s'.gens = s.gens → s'.os = s.os → s.heap.objs.size ≤ p →
      s'.heap.get? p = some (seqObj "list" out c) → StrsAre out.toList ts → ts.Perm l → (ts.Pairwise fun x y => PySem.W.dataLe false PyData.str x y = true) → Q (.ref p) s') :
    wpAny (model prog w) A (call (.builtin "sorted") [.ref a]) Q E s := by
  obtain ⟨D, ho, F, hr, hl⟩ := S
  have hsz : D.1.size = l.length := F.sz
  refine Calls.call_function_entry kind_sorted plain_sorted entry_sorted (args_sorted1 _) ?_
  unfold Builtin.«sorted»
  refine wpAny_bind (m := checkCount "sorted" 1 1 _) (wpAny_pure (wpAny_bind (collect_set (A := A.in1) hh ⟨_, ho, rfl, rfl⟩ F.fit (by rw [hsz]; exact hb) hr hl fun s1 vs k1 hz g1 o1 pm => ?_)))
  have hvl : vs.length = l.length := by rw [pm.length_eq, List.length_map, Array.length_toList, hsz]
  obtain ⟨xs, hx1, hx2⟩ := txts_of (es := D.1.toList) (l := l) (vs := vs) fun v hv => by
    obtain ⟨e, he, q⟩ := List.mem_map.mp (pm.mem_iff.mp hv)
    obtain ⟨⟨k, hk, _⟩, _⟩ := F.el e he
    rw [← q]
    exact ⟨k, Value.isStrOf_shape hk⟩
  have hxl : xs.length = l.length := (StrsAre.len_eq hx1).symm.trans hvl
  have pl : l.Perm xs := perm_of_len nd (fun x hx => by
    obtain ⟨e, he, q⟩ := (F.mem x).mp hx
    obtain ⟨t, ht⟩ := Value.isStrOf_shape q
    exact (hx2 x).mpr ⟨t, by rw [← ht]; exact pm.mem_iff.mpr (List.mem_map.mpr ⟨e, he, rfl⟩)⟩) (Nat.le_of_eq hxl)
  refine wpAny_bind (wpAny_newList ?_ (by rw [hvl]; exact fits_of_scanBound hb))
  have hoL : (s1.heap.push (seqObj "list" vs.toArray 0)).get? s1.heap.objs.size = some (seqObj "list" vs.toArray 0) := Heap.get?_push_size _ rfl
  have eR := strs_each hx1
  have alk : PySem.W.AllAlike (xs.map PyData.str) := fun d hd d' hd' => by
    obtain ⟨x, _, rfl⟩ := List.mem_map.mp hd
    obtain ⟨y, _, rfl⟩ := List.mem_map.mp hd'
    simp [PySem.W.alike]
  refine wpAny_bind (wpAny_holding (PySem.W.list_sort_data (R := strOf) (enc := PyData.str) hoL eR (eR.mono fun v x ⟨t, e⟩ => ⟨[], by rw [e]; exact .str x t, by simp⟩) alk (.inr fun d hd => by obtain ⟨x, _, rfl⟩ := List.mem_map.mp hd; exact ⟨PyData.noConfusion, fun ys => PyData.noConfusion⟩) (by rw [hxl]; exact fits_of_scanBound hb) (fun b _ => ?_) fun out hol hoe => ?_))
  · show A.units + 1 + 1 + (PyData.str b).depth < _
    simp only [PyData.depth]; omega
  obtain ⟨c, hc⟩ := sortedHeap_at (vs := vs) (out := out.toArray) hoL
  refine wpAny_pure ⟨_, rfl, hQ _ s1.heap.objs.size out.toArray c (xs.mergeSort (PySem.W.dataLe false PyData.str)) (fun b u e => ?_) g1 o1 hz hc (each_strs (by simpa using hoe)) ((List.mergeSort_perm _ _).trans pl.symm) ?_⟩
  · have q := k1 b u e
    have hlt := Heap.lt_size q
    show (sortedHeap (s1.heap.push (seqObj "list" vs.toArray 0)) s1.heap.objs.size vs out.toArray).get? b = some u
    rw [sortedHeap_old (Nat.ne_of_lt hlt) (by rw [size_push']; exact Nat.lt_succ_of_lt hlt)]
    exact Heap.get?_push_of_some _ q
  · exact PySem.W.sort_pairwise (PySem.W.sortLe_total _ _ _) xs
end
section
variable {X : Cx}
def tSortSetS (K : Fg) (ta : TE) : TE := fun σ H Q => ta σ H fun x H1 => ∃ (l : Addr) (ts : List Str), x = V.ref l ∧ SqL K H1 l (ts.map V.str) ∧ ts.length ≤ 4000 ∧
  ∀ (us : List Str) (p : Addr), us.Perm (uq ts) → (us.Pairwise fun x y => PySem.W.dataLe false PyData.str x y = true) → H1 p = none → Q (.ref p) (upd H1 p (.lst (us.map V.str)))
theorem vals_of_strs : ∀ {vs : List Value} {ts : List Str}, StrsAre vs ts → Vals (ts.map V.str) vs
  | _, _, .nil => .nil
  | _, _, .cons _ t r => .cons ⟨t, rfl⟩ (vals_of_strs r)
theorem sort_end {pins : List (Addr × Obj)} {σ : L2.St} {H1 : Hp} {s : Shared} {a : Addr} {l : List Str} {Q : VK} {E : Value → Shared → Prop} (hu : X.A.units + 100 < cLine) (hc : X.calm = true) (I : Inv X pins σ H1 s) (S : SetT X.prog X.w s.heap a l) (nd : l.Nodup) (hb : l.length < scanBound)
    (q : ∀ (us : List Str) (p : Addr), us.Perm l → (us.Pairwise fun x y => PySem.W.dataLe false PyData.str x y = true) → H1 p = none → Q (.ref p) (upd H1 p (.lst (us.map V.str)))) :
    wpAny (model X.prog X.w) X.A (call (.builtin "sorted") [.ref a]) (EP X pins σ Q) E s := by
  refine sorted_txt S nd (I.ok.hd hc) hb (by omega) fun s' p out c us k g o hp hg' hi pm pw => ?_
  have hlen : (us.map V.str).length ≤ sizeLine := by rw [List.length_map, pm.length_eq]; exact fits_of_scanBound hb
  have hn : H1 p = none := I.hok.fresh hp
  have J : Inv X pins σ (upd H1 p (.lst (us.map V.str))) { s with heap := s'.heap, gens := s'.gens, drawn := s'.drawn, toks := s'.toks } :=
    I.call (ch := []) (Un.laid k hp hn) (I.hok.laid k hp ⟨hlen, out.toList, c, vals_of_strs hi, hg'⟩) (by rw [g]; exact I.bare) (fun _ z => nomatch z)
  have e : s' = { s with heap := s'.heap, gens := s'.gens, drawn := s'.drawn, toks := s'.toks } := by
    cases s'
    cases s
    cases o
    rfl
  rw [e]
  exact ⟨.ref p, _, J, rfl, q us p pm pw hn⟩
theorem pe_sortSetS {a : Expr} {ta : TE} {p p2 q pos : Pos} (hu : X.A.units + 100 < cLine) (hc : X.calm = true) (hg : Gl X "sorted") (hm : X.mg "sorted" = none) (hg2 : Gl X "set") (hm2 : X.mg "set" = none) (ha : PE X a ta)
    (na : starEach [a] X.env = (false, eval a X.env) :: starEach [] X.env := by rfl) : PE X (.Call (.Name "sorted" p) [.Call (.Name "set" p2) [a] [] q] [] pos) (tSortSetS X.K ta) := by
  refine ⟨fun pins s σ H Q I h => Call_ (ld_blt I hg hm boot_sorted_ (callWith_builtin1 (args_cons (Call_ (ld_blt I hg2 hm2 boot_set (callWith_type1 (args_cons (thn (ha.run pins s σ H _ I h) fun v s1 ⟨x, H1, I1, r1, q1⟩ => args_nil ?_) na) na rfl))) rfl) rfl rfl))⟩
  obtain ⟨l, ts, rfl, hq, h1, q1⟩ := q1
  cases r1
  obtain ⟨its, r, pl, hz⟩ := I1.list hq
  have hle := uq_le ts
  have hb : (uq ts).reverse.length < scanBound := by rw [List.length_reverse]; unfold scanBound; omega
  refine call_set_listT (I1.ok.hd hc) pl.isList (xs := ts) (by simpa using strsAre_of r) (by unfold scanBound; omega) fun h' tk hS hk => args_nil ?_
  have I2 : Inv X pins σ H1 { s1 with heap := h', toks := tk } := I1.kept fun b o e => hk b o (Heap.lt_size e) e
  refine sort_end hu hc I2 hS (((List.reverse_perm _).nodup_iff).mpr (uq_nodup ts)) hb fun us p pm pw hn => q1 us p (pm.trans (List.reverse_perm _)) pw hn
end
theorem cs_sOf (s : List Nat) : cs (sOf s) = s := by unfold cs sOf; simp
theorem sOf_cs2 (x : Str) : sOf (cs x) = x := sOf_cs x
theorem le_strs {a b : List Nat} (h : PySem.W.dataLe false PyData.str (sOf a) (sOf b) = true) (ne : a ≠ b) : ltS a b = true := by
  rw [PySem.W.dataLe_eq] at h
  have h : (!PySem.W.dataLt (.str (sOf b)) (.str (sOf a))) = true := h
  have e : PySem.W.dataLt (.str (sOf b)) (.str (sOf a)) = ltS b a := by
    unfold PySem.W.dataLt
    simp only [PySem.W.keyToks, PyProof.Rows.lexLt]
    rw [show ∀ x y : List Nat, PyProof.Rows.itemLt (.inr x) (.inr y) = ltS x y from itemLt_str]
    unfold sOf
    simp
  rw [e] at h
  unfold ltS at h ⊢
  rw [Bool.not_eq_true', decide_eq_false_iff_not] at h
  refine decide_eq_true (Classical.byContradiction fun g => ne ?_)
  exact List.le_antisymm (List.not_lt.mp h) (List.not_lt.mp g)
theorem pw_ne : ∀ {m : List (List Nat)}, (m.Pairwise fun a b => PySem.W.dataLe false PyData.str (sOf a) (sOf b) = true) → m.Nodup → m.Pairwise fun x y => ltS x y = true
  | [], _, _ => .nil
  | x :: m, h, n => by
    obtain ⟨h1, h2⟩ := List.pairwise_cons.mp h
    obtain ⟨n1, n2⟩ := List.nodup_cons.mp n
    exact List.pairwise_cons.mpr ⟨fun y hy => le_strs (h1 y hy) fun e => n1 (e ▸ hy), pw_ne h2 n2⟩
section
variable {K : Fg}
def bSortSetS (own : Bool) (a : BE K) : BE K where
  t := fun W => tSortSetS K (a.t W)
  w := fun ρ ω Φ Ψ => a.w ρ ω (fun x ω1 => optW (lstOf ω1 x) fun us => optW (strsOf us) fun ts => NeedW (ts.length ≤ 4000) (∀ l : List (List Nat), l.Perm (uq ts) → (l.Pairwise fun x y => ltS x y = true) →
    if own = true then ∀ p, ω1 p = none → Φ (.ref p) (ω1.set p (.lst (l.map .str))) else Φ (.lst (l.map .str)) ω1)) Ψ
  ok := fun W ρ z σ Q Φ Ψ h k r q qx => by
    refine a.ok W ρ z σ _ _ Ψ h k r (fun x z1 d t1 r1 h1 => ?_) qx
    obtain ⟨us, h2, h1⟩ := optW_iff.mp h1
    obtain ⟨ts, h3, h1⟩ := optW_iff.mp h1
    obtain ⟨l, ys, rfl, ha, ry⟩ := lstOf_seq t1.ok r1 h2
    rw [strsOf_eq h3] at ry
    rw [RepL.strs ry] at ha
    refine ⟨l, ts.map sOf, rfl, ha, by rw [List.length_map]; exact h1.1, fun vs p pm pw hp => ?_⟩
    rw [uq_map sOf (fun a b e => by unfold sOf at e; simpa using e)] at pm
    obtain ⟨m, e⟩ : ∃ m : List (List Nat), m.map sOf = vs := ⟨vs.map cs, by rw [List.map_map]; exact (List.map_congr_left fun x _ => sOf_cs2 x).trans (List.map_id _)⟩
    subst e
    have pm2 : m.Perm (uq ts) := by
      have := pm.map cs
      rw [List.map_map, List.map_map] at this
      have i : ∀ l : List (List Nat), l.map (cs ∘ sOf) = l := fun l => (List.map_congr_left fun x _ => cs_sOf x).trans (List.map_id _)
      rwa [i, i] at this
    have h3 := h1.2 m pm2 (pw_ne (List.pairwise_map.mp pw) (pm2.nodup_iff.mpr (uq_nodup ts)))
    cases own with
    | true =>
      rw [if_pos rfl] at h3
      have l := t1.ok.lay (o := .lst ((m.map sOf).map V.str)) (c := .lst (m.map .str)) hp ⟨_, upd_same, RepL.of_strs m⟩
      exact q (.ref p) _ (.ref p) (t1.trans l) (.ref p) (h3 p (t1.ok.free hp).2)
    | false =>
      rw [if_neg Bool.false_ne_true] at h3
      have l := t1.ok.add (o := .lst ((m.map sOf).map V.str)) hp
      exact q (.ref p) _ (.lst (m.map .str)) (t1.trans l) (.lst upd_same (RepL.of_strs m)) h3
end
section
variable {X : Cx} {W : WX} {a : Expr} {A : BE X.K} {p p2 q pos : Pos}
theorem P_sortSetS {own : Bool} {k : Nat} (hm : X.mg "sorted" = none) (hm2 : X.mg "set" = none) (ha : PE X a (A.t W)) (hr : Room k X.A) (hg : Gl X "sorted" := by rfl) (hg2 : Gl X "set" := by rfl) (hc : X.calm = true := by rfl)
    (na : starEach [a] X.env = (false, eval a X.env) :: starEach [] X.env := by rfl) : PE X (.Call (.Name "sorted" p) [.Call (.Name "set" p2) [a] [] q] [] pos) ((bSortSetS own A).t W) := pe_sortSetS (by have := hr.un; omega) hc hg hm hg2 hm2 ha na
end
/-! ### x < y, of data -/
section
variable {K : Fg}
def rLtD (K : Fg) : R2 := fun x y H Q => ∃ p q, Dp K H x p ∧ Dp K H y q ∧ PySem.W.alike p q = true ∧ p ≠ .none ∧ p.depth ≤ 64 ∧ Q (.bl (PySem.W.dataLt p q)) H
theorem op_ltD {X : Cx} (hu : X.A.units + 64 < cLine) : OpR X (compareOp .Lt) (rLtD X.K) := by
  intro pins s σ H x y v u Q I rx ry h
  obtain ⟨p, q, h1, h2, al, hn, dp, hq⟩ := h
  obtain ⟨as, ra⟩ := Dp.reads I _ _ _ h1 rx
  obtain ⟨bs, rb⟩ := Dp.reads I _ _ _ h2 ry
  exact PySem.W.lt_data ra rb al hn (by have := Nat.min_le_left p.depth q.depth; omega) ⟨.bl _, H, I, rfl, hq⟩
def oLtDD : O2 K where
  r := rLtD K
  w := fun x y ω Φ => KeyOk x ∧ eqD y = true ∧ alk x y = true ∧ Φ (.bl (dlt x y)) ω
  ok := fun z x y d e Q Φ h k r1 r2 q => ⟨_, _, rep_dp k r1 h.1.1, rep_dp k r2 h.2.1, h.2.2.1, toPy_non h.1.2.2 h.1.1, by rw [toPy_d]; exact h.1.2.1, q _ z _ k.to (.bl _) h.2.2.2⟩
theorem op_oLtDD {X : Cx} {k : Nat} (hr : Room k X.A) : OpR X (compareOp .Lt) (oLtDD (K := X.K)).r := op_ltD (hq_of hr)
end
/-! ### equations -/
section
variable {K : Fg} {ρ : En} {ω : Om} {Φ : D → Om → Prop} {Ψ : Exn → Om → Prop} {A B O Y V' : BE K} {As : BA K} {k : KD} {FI : List D → (Om → Prop) → Om → Prop} {a : Addr} {d : D} {kvs : List (Key × D)} {kvt : List (List Key × D)}
theorem x_ltDD {x y : D} : (oLtDD : O2 K).w x y ω Φ = (KeyOk x ∧ eqD y = true ∧ alk x y = true ∧ Φ (.bl (dlt x y)) ω) := rfl
theorem x_sortSetSF : (bSortSetS false A).w ρ ω Φ Ψ = A.w ρ ω (fun x ω1 => optW (lstOf ω1 x) fun us => optW (strsOf us) fun ts => NeedW (ts.length ≤ 4000) (∀ l : List (List Nat), l.Perm (uq ts) → (l.Pairwise fun x y => ltS x y = true) → Φ (.lst (l.map .str)) ω1)) Ψ := rfl
theorem x_sortSetST : (bSortSetS true A).w ρ ω Φ Ψ = A.w ρ ω (fun x ω1 => optW (lstOf ω1 x) fun us => optW (strsOf us) fun ts => NeedW (ts.length ≤ 4000) (∀ l : List (List Nat), l.Perm (uq ts) → (l.Pairwise fun x y => ltS x y = true) → ∀ p, ω1 p = none → Φ (.ref p) (ω1.set p (.lst (l.map .str))))) Ψ := rfl
theorem x_dget : (bDget O Y).w ρ ω Φ Ψ = O.w ρ ω (fun x ω1 => Y.w ρ ω1 (fun y ω2 => dgetW x y ω2 fun r => optW r fun d => Φ d ω2) Ψ) Ψ := rfl
theorem x_din {neg : Bool} : (bDin neg Y O).w ρ ω Φ Ψ = Y.w ρ ω (fun y ω1 => O.w ρ ω1 (fun x ω2 => dgetW x y ω2 fun r => Φ (.bl (if neg then !r.isSome else r.isSome)) ω2) Ψ) Ψ := rfl
theorem x_dput : (bsDput O Y V').w ρ ω k = V'.w ρ ω (fun d ω1 => O.w ρ ω1 (fun x ω2 => Y.w ρ ω2 (fun y ω3 => dputK x y d ω3 fun ω4 => k.nx ρ ω4) fun x ω1 => k.xc x ρ ω1) fun x ω1 => k.xc x ρ ω1) fun x ω1 => k.xc x ρ ω1 := rfl
theorem x_dputA : (bsDputA O As V').w ρ ω k = V'.w ρ ω (fun d ω1 => O.w ρ ω1 (fun x ω2 => As.w ρ ω2 (fun ys ω3 => dputT x ys d ω3 fun ω4 => k.nx ρ ω4) fun x ω1 => k.xc x ρ ω1) fun x ω1 => k.xc x ρ ω1) fun x ω1 => k.xc x ρ ω1 := rfl
theorem x_biKeys : (biKeys A).w ρ ω FI Ψ = A.w ρ ω (fun x ω1 => keysW x ω1 FI) Ψ := rfl
theorem x_dgetT {ys : List D} {F : Option D → Prop} : dgetW (.ref a) (.tup ys) ω F = optW (dtOf (ω a)) fun kvs => optW (keysD ys) fun k => F (valD kvs k) := rfl
theorem x_dgetS {s : List Nat} {F : Option D → Prop} : dgetW (.ref a) (.str s) ω F = optW (dkOf (ω a)) fun kvs => F (valD kvs (.inr (sOf s))) := rfl
theorem x_dgetI {i : Int} {F : Option D → Prop} : dgetW (.ref a) (.int i) ω F = optW (dkOf (ω a)) fun kvs => F (valD kvs (.inl i)) := rfl
theorem x_dputK {y d : D} {F : Om → Prop} : dputK (.ref a) y d ω F = cK (ω a) fun kvs => optW (keyD y) fun k => NeedW (kvs.length < 16777216) (F (ω.set a (.dk (putD kvs k d)))) := rfl
theorem x_dputT {ys : List D} {d : D} {F : Om → Prop} : dputT (.ref a) ys d ω F = cT (ω a) fun kvs => optW (keysD ys) fun k => NeedW (kvs.length < 16777216 ∧ ys.length < 100) (F (ω.set a (.dt (putD kvs k d)))) := rfl
end
end T

/-! A try whose body raises nothing. -/
namespace T
open PySem L2
section
variable {X : Cx} {W : WX} {body : List Stmt} {S : BS X.K} {h0 : ExceptHandler} {hs : List ExceptHandler} {pos : Pos}
theorem S_try0 (hb : PSs X.nox body (S.t W)) : PS X (.Try body (h0 :: hs) [] [] pos) (S.t W) := ps_try_thru0 hb
end
/-! o[i] op= e, of a list that may change -/
/-- o[i] of a list that may change, i from 0 on -/
def rGetL : V → V → Hp → VK → Prop := fun o i H Q => ∃ p xs k x, o = .ref p ∧ i = .int k ∧ 0 ≤ k ∧ H p = some (.lst xs) ∧ xs[k.toNat]? = some x ∧ Q x H
theorem get_listN {X : Cx} : PGet X rGetL := by
  intro pins s σ H o i ov iv Q I ro ri h
  obtain ⟨p, xs, k, x, rfl, rfl, h0, hp, hx, q⟩ := h
  cases ro
  obtain ⟨t, rfl⟩ := ri
  obtain ⟨its, n, r, ho, hz⟩ := I.lst hp
  obtain ⟨w, ew, rw'⟩ := r.get hx
  have hl := r.length
  have hn : sizeLine = 16777216 := sizeLine_eq
  have hk : k.toNat < xs.length := (List.getElem?_eq_some_iff.mp hx).1
  have il : s.heap.IsList p its.toArray := ⟨_, ho, rfl, n, rfl⟩
  exact wpAny_getItem_list il h0 (by omega) (by simpa using ew) ⟨x, H, I, rw', q⟩
section
variable {K : Fg}
def agW (x y : D) (ω : Om) (F : D → Om → Prop) : Prop := match x, y with
  | .ref p, .int i => 0 ≤ i ∧ cL (ω p) fun ds => optW ds[i.toNat]? fun d => F d ω
  | _, _ => False
def bsAugS (a b e : BE K) (o : O2 K) : BS K where
  t := fun W => tAugS (a.t W) (b.t W) (e.t W) rGetL o.r rSetL
  w := fun ρ ω k => a.w ρ ω (fun x ω1 => b.w ρ ω1 (fun y ω2 => agW x y ω2 fun d ω3 => e.w ρ ω3 (fun u ω4 => o.w d u ω4 fun v ω5 => gsW x y v ρ ω5 k.nx) fun x ω4 => k.xc x ρ ω4) fun x ω2 => k.xc x ρ ω2) fun x ω1 => k.xc x ρ ω1
  ok := fun W ρ z σ D' k h ok r hk => by
    refine a.ok W ρ z σ _ _ _ h ok r (fun x z1 d1 t1 r1 h1 => ?_) (hk.qx r)
    refine b.ok W ρ z1 σ _ _ _ h1 t1.ok (r.mono t1.ex) (fun y z2 d2 t2 r2 h2 => ?_) ((hk.to t1).qx (r.mono t1.ex))
    have t12 := t1.trans t2
    unfold agW at h2
    split at h2
    · have rx := r1.mono t2.ex
      cases rx; cases r2
      obtain ⟨h0, h2⟩ := h2
      obtain ⟨ds, hc, h2⟩ := cL_iff.mp h2
      obtain ⟨d, hd, h3⟩ := optW_iff.mp h2
      obtain ⟨_, xs, g1, g2⟩ := t2.ok.cell _ _ hc
      obtain ⟨g, hg, rg⟩ := g2.get hd
      refine ⟨_, xs, _, g, rfl, rfl, h0, g1, hg, ?_⟩
      refine e.ok W ρ z2 σ _ _ _ h3 t2.ok (r.mono t12.ex) (fun u z4 d4 t4 r4 h4 => ?_) ((hk.to t12).qx (r.mono t12.ex))
      have t14 := t12.trans t4
      refine o.ok z4 g u d d4 _ _ h4 t4.ok (rg.mono t4.ex) r4 fun v z5 d5 t5 r5 h5 => ?_
      have t15 := t14.trans t5
      obtain ⟨es, hc5, h5⟩ := cL_iff.mp (show cL (z5.o _) _ from h5)
      obtain ⟨j, hj, h6⟩ := optW_iff.mp h5
      obtain ⟨_, ys, k1, k2⟩ := t5.ok.cell _ _ hc5
      have t := t5.ok.put (o := .lst (ys.set j v)) (c' := .lst (es.set j d5)) hc5 ⟨_, upd_same, k2.set r5 j⟩
      exact ⟨_, ys, _, j, rfl, rfl, k1, by rw [k2.length]; exact hj, hk.nx _ _ _ (t15.trans t) (r.mono (t15.trans t).ex) h6⟩
    · exact h2.elim
theorem x_augS {a b e : BE K} {o : O2 K} {ρ : En} {ω : Om} {k : KD} : (bsAugS a b e o).w ρ ω k = a.w ρ ω (fun x ω1 => b.w ρ ω1 (fun y ω2 => agW x y ω2 fun d ω3 => e.w ρ ω3 (fun u ω4 => o.w d u ω4 fun v ω5 => gsW x y v ρ ω5 k.nx) fun x ω4 => k.xc x ρ ω4) fun x ω2 => k.xc x ρ ω2) fun x ω1 => k.xc x ρ ω1 := rfl
theorem x_agW {p : Addr} {i : Int} {ω : Om} {F : D → Om → Prop} : agW (.ref p) (.int i) ω F = (0 ≤ i ∧ cL (ω p) fun ds => optW ds[i.toNat]? fun d => F d ω) := rfl
end
section
variable {X : Cx} {a b e : Expr} {A B E : BE X.K} {pos pos' : Pos} {W : WX}
theorem S_augS {op : Operator} {o : O2 X.K} (ho : OpR X (inplaceOp op) o.r) (ha : PE X a (A.t W)) (hb : PE X b (B.t W)) (he : PE X e (E.t W))
    (hst : ∀ ov iv new, augStore b ov iv new = (do holding [new, ov, iv] (setItem ov iv new); release [new, ov, iv] []; pure .next) := by intros; rfl) : PS X (.AugAssign (.Subscript a b pos') op e pos) ((bsAugS A B E o).t W) :=
  ps_augS ha hb get_listN he (fun pins s σ H x y v u Q I rx ry h => ho pins s σ H x y v u Q I rx ry h) set_list hst
end
end T

/-! sorted(set(..)) of numbers. -/
namespace T
open PySem PySem.Spec PyProof.Rows L2 PySem.Froz
section
variable {prog : Program} {w : World} {A : Around} {E : Value → Shared → Prop} {s : Shared}
set_option maxHeartbeats 3200000 in
theorem call_set_listI {l : Addr} {items : Array Value} {xs : List Int} {Q : Value → Shared → Prop} (hh : A.handled = none) (hl : s.heap.IsList l items) (hi : IntsAre items.toList xs) (hb : xs.length + 1 < scanBound)
    (h : ∀ (h' : Heap) (tk c : Nat), SetR w h' s.heap.objs.size (fun j => decide (j ∈ xs)) c → c ≤ xs.length → (∀ b o, b < s.heap.objs.size → s.heap.get? b = some o → h'.get? b = some o) → Q (.ref s.heap.objs.size) { s with heap := h', toks := tk }) :
    wpAny (model prog w) A (call (.type "set") [.ref l]) Q E s := by
  obtain ⟨c, tl, hmro⟩ := PySem.F.called_set.mro
  have f1 := PySem.F.called_set.made
  have f2 := PySem.F.called_set.sub
  have f3 := PySem.F.called_set.notType
  have f4 := PySem.F.called_set.canCreate
  have f5 := PySem.F.typeCall_set_1 (.ref l)
  refine wpAny_call (codeAny_of_tree ?_)
  show wpAny _ _ (callAny (.type "set") _) _ _ _
  refine wpAny_pure ⟨Code.quiet_builtin _ (by decide +kernel), codeAny_builtin PySem.F.entry_type_call ?_⟩
  rw [Around.under_plain (weight_type_call_type "set" [.ref l] []) rfl]
  repeat (any_goals (first | assumption | wp_step))
  refine codeAny_mono (code_set_led1 (.ref l) (E := E) (Q₁ := fun obj s₁ => obj = .ref s.heap.objs.size ∧ s₁ = { s with heap := s.heap.push { cls := .type "set", dict := none, data := .set #[] 0 (.fresh 0 0 (!w.params.followText "set-order")) } }) ⟨rfl, rfl⟩) fun r s₁ hr => ?_
  match r, hr with
  | .error e, hr => exact hr
  | .ok .next, hr => exact hr.elim
  | .ok .brk, hr => exact hr.elim
  | .ok .cont, hr => exact hr.elim
  | .ok (.ret obj), hr =>
  obtain ⟨rfl, rfl⟩ := hr
  generalize eled : (!w.params.followText "set-order") = led
  have hS : (s.heap.push { cls := .type "set", dict := none, data := .set #[] 0 (.fresh 0 0 led) }).get? s.heap.objs.size = some { cls := .type "set", dict := none, data := .set #[] 0 (.fresh 0 0 led) } := Heap.get?_push_size _ rfl
  have hT : Shared.TypeIs { s with heap := s.heap.push { cls := .type "set", dict := none, data := .set #[] 0 (.fresh 0 0 led) } } (.ref s.heap.objs.size) "set" := ⟨_, hS, rfl⟩
  have f6 := PySem.F.called_set.init.lookup
  have f7 := PySem.F.called_set.init.bind (.ref s.heap.objs.size)
  repeat (any_goals (first | assumption | wp_step))
  refine codeAny_mono (codeAny_call_builtin (R := wants (fun r s₂ => r = .none ∧ ∃ h' tk c, s₂ = { s with heap := h', toks := tk } ∧ SetR w h' s.heap.objs.size (fun j => decide (j ∈ xs)) c ∧ c ≤ xs.length ∧
      (∀ b o, b < s.heap.objs.size → s.heap.get? b = some o → h'.get? b = some o)) E) PySem.F.called_set.init.plain PySem.F.entry_set_init (check_set_init_1 hT ?_)) fun r₂ s₂ hr₂ => ?_
  · obtain ⟨ol, hol, hcl, nl, hdl⟩ := hl
    obtain ⟨ocls, odict, odata, oslots⟩ := ol
    dsimp only at hcl hdl
    subst hcl hdl
    have hol' : (s.heap.push { cls := .type "set", dict := none, data := .set #[] 0 (.fresh 0 0 led) }).get? l = some { cls := .type "list", dict := odict, data := .seq items nl, slots := oslots } := Heap.get?_push_of_some _ hol
    have g1 := PySem.F.sub_list_set
    have g2 := PySem.F.sub_list_frozenset
    have g3 : (Value.type "list" == Value.type "dict") = false := by decide
    have hl1 : (s.heap.push { cls := .type "set", dict := none, data := .set #[] 0 (.fresh 0 0 led) }).IsList l items := ⟨_, hol', rfl, nl, rfl⟩
    unfold Builtin.«set.__init__» noKeywords Builtin.Frozenset.updateFrom
    generalize hPI : pyIter = PI
    wp_walk
    subst hPI
    have lS : l < s.heap.objs.size := Heap.lt_size hol
    have szP : (s.heap.push { cls := .type "set", dict := none, data := .set #[] 0 (.fresh 0 0 led) }).objs.size = s.heap.objs.size + 1 := Heap.size_push _ _
    refine wpAny_pyIter_list hl1 (wpAny_bind (wpAny_runValue ?_))
    have hsz : items.size = xs.length := by rw [← IntsAre.length hi, Array.length_toList]
    have hval : ∀ (i : Nat) (v : Value), items[i]? = some v → ∃ k t, xs[i]? = some k ∧ v = .int k t := fun i v hv => by
      have il : i < xs.length := by rw [← hsz]; exact (Array.getElem?_eq_some_iff.mp hv).1
      obtain ⟨t, e⟩ := IntsAre.int_at hi i v (by rw [Array.getElem?_toList]; exact hv)
      exact ⟨xs[i], t, List.getElem?_eq_getElem il, by rw [e, List.getD_eq_getElem?_getD, List.getElem?_eq_getElem il]; rfl⟩
    refine set_update_ints ((Walks.list (by simp [hh]) _ l (by rw [szP]; exact Nat.ne_of_lt (Nat.lt_succ_of_lt lS)) items).toS) s.heap.objs.size (by rw [szP]; simp only [List.mem_cons, List.not_mem_nil, or_false, not_or]; exact ⟨Nat.ne_of_lt (Nat.lt_succ_self _), Nat.ne_of_gt lS⟩) xs hsz hb hval (items.size - 0) 0 _ (by omega) (Nat.zero_le _)
      ⟨⟨_, Heap.get?_push_size _ rfl, rfl, rfl⟩, hl1.push _⟩ ?_ fun s' c' hm hc' hS' => ?_
    · refine ⟨0, Nat.le_refl 0, setR_new_at ?_⟩
      rw [eled]
      exact Heap.get?_push_of_some _ hS
    · obtain ⟨h', g', d', tk', os'⟩ := s'
      obtain rfl : g' = s.gens := hm.gens
      obtain rfl : d' = s.drawn := hm.drawn
      obtain rfl : os' = s.os := hm.os
      show wpAny _ _ _ _ _ _
      refine wpAny_pure ?_
      show wpAny _ _ (ret Value.none) _ _ _
      refine wpAny_pure ⟨rfl, h', tk', c', rfl, hS', by omega, fun b o hb' e => hm.heap b o ?_ (Heap.get?_push_of_some _ (Heap.get?_push_of_some _ e))⟩
      intro hm'
      rw [szP] at hm'
      simp only [List.mem_cons, List.not_mem_nil, or_false] at hm'
      rcases hm' with hm' | hm'
      · exact absurd hm' (Nat.ne_of_lt hb')
      · exact absurd hm' (Nat.ne_of_lt (Nat.lt_succ_of_lt hb'))
  · match r₂, hr₂ with
    | .error e, hr₂ => exact hr₂
    | .ok .next, hr₂ => exact hr₂.elim
    | .ok .brk, hr₂ => exact hr₂.elim
    | .ok .cont, hr₂ => exact hr₂.elim
    | .ok (.ret r), hr₂ =>
      obtain ⟨rfl, h', tk, c', rfl, hS', hc', hk'⟩ := hr₂
      repeat (any_goals (first | assumption | wp_step))
      exact h _ _ _ hS' hc' hk'
end
section
variable {X : Cx}
def tSortSetI (K : Fg) (ta : TE) : TE := fun σ H Q => ta σ H fun x H1 => ∃ (l : Addr) (ns : List Int), x = V.ref l ∧ SqL K H1 l (ns.map V.int) ∧ ns.length < 64 ∧
  ∀ (us : List Int) (p : Addr), (us.Pairwise fun x y => x < y) → (∀ k, k ∈ us ↔ k ∈ ns) → us.length ≤ ns.length → H1 p = none → Q (.ref p) (upd H1 p (.lst (us.map V.int)))
theorem vals_of_ints : ∀ {vs : List Value} {ns : List Int}, IntsAre vs ns → Vals (ns.map V.int) vs
  | _, _, .nil => .nil
  | _, _, .cons _ t r => .cons ⟨t, rfl⟩ (vals_of_ints r)
theorem sort_endI {pins : List (Addr × Obj)} {σ : L2.St} {H1 : Hp} {s : Shared} {a : Addr} {S : Int → Bool} {n : Nat} {Q : VK} {E : Value → Shared → Prop} (hc : X.calm = true) (I : Inv X pins σ H1 s) (R : SetR X.w s.heap a S n) (h64 : n < 64)
    (q : ∀ (us : List Int) (p : Addr), (us.Pairwise fun x y => x < y) → (∀ k, k ∈ us ↔ S k = true) → us.length = n → H1 p = none → Q (.ref p) (upd H1 p (.lst (us.map V.int)))) :
    wpAny (model X.prog X.w) X.A (call (.builtin "sorted") [.ref a]) (EP X pins σ Q) E s := by
  refine sorted_set R (I.ok.hd hc) h64 fun s' p out c us k g o hp hg' hi pw mem len => ?_
  have hlen : (us.map V.int).length ≤ sizeLine := by rw [List.length_map, sizeLine_eq]; omega
  have hn : H1 p = none := I.hok.fresh hp
  have J : Inv X pins σ (upd H1 p (.lst (us.map V.int))) { s with heap := s'.heap, gens := s'.gens, drawn := s'.drawn, toks := s'.toks } :=
    I.call (ch := []) (Un.laid k hp hn) (I.hok.laid k hp ⟨hlen, out.toList, c, vals_of_ints hi, hg'⟩) (by rw [g]; exact I.bare) (fun _ z => nomatch z)
  have e : s' = { s with heap := s'.heap, gens := s'.gens, drawn := s'.drawn, toks := s'.toks } := by
    cases s'
    cases s
    cases o
    rfl
  rw [e]
  exact ⟨.ref p, _, J, rfl, q us p pw mem len hn⟩
theorem pe_sortSetI {a : Expr} {ta : TE} {p p2 q pos : Pos} (hc : X.calm = true) (hg : Gl X "sorted") (hm : X.mg "sorted" = none) (hg2 : Gl X "set") (hm2 : X.mg "set" = none) (ha : PE X a ta)
    (na : starEach [a] X.env = (false, eval a X.env) :: starEach [] X.env := by rfl) : PE X (.Call (.Name "sorted" p) [.Call (.Name "set" p2) [a] [] q] [] pos) (tSortSetI X.K ta) := by
  refine ⟨fun pins s σ H Q I h => Call_ (ld_blt I hg hm boot_sorted_ (callWith_builtin1 (args_cons (Call_ (ld_blt I hg2 hm2 boot_set (callWith_type1 (args_cons (thn (ha.run pins s σ H _ I h) fun v s1 ⟨x, H1, I1, r1, q1⟩ => args_nil ?_) na) na rfl))) rfl) rfl rfl))⟩
  obtain ⟨l, ns, rfl, hq, h1, q1⟩ := q1
  cases r1
  obtain ⟨its, r, pl, hz⟩ := I1.list hq
  refine call_set_listI (I1.ok.hd hc) pl.isList (xs := ns) (by simpa using r.ints) (by unfold scanBound; omega) fun h' tk c hS hcl hk => args_nil ?_
  have I2 : Inv X pins σ H1 { s1 with heap := h', toks := tk } := I1.kept fun b o e => hk b o (Heap.lt_size e) e
  exact sort_endI hc I2 hS (by omega) fun us p pw mem len hn => q1 us p pw (fun k => by rw [mem k]; exact decide_eq_true_iff) (by omega) hn
end
section
variable {K : Fg}
def bSortSetI (own : Bool) (a : BE K) : BE K where
  t := fun W => tSortSetI K (a.t W)
  w := fun ρ ω Φ Ψ => a.w ρ ω (fun x ω1 => optW (lstOf ω1 x) fun us => optW (intsOf us) fun ns => NeedW (ns.length < 64) (∀ l : List Int, (l.Pairwise fun x y => x < y) → (∀ k, k ∈ l ↔ k ∈ ns) → l.length ≤ ns.length →
    if own = true then ∀ p, ω1 p = none → Φ (.ref p) (ω1.set p (.lst (l.map .int))) else Φ (.lst (l.map .int)) ω1)) Ψ
  ok := fun W ρ z σ Q Φ Ψ h k r q qx => by
    refine a.ok W ρ z σ _ _ Ψ h k r (fun x z1 d t1 r1 h1 => ?_) qx
    obtain ⟨us, h2, h1⟩ := optW_iff.mp h1
    obtain ⟨ns, h3, h1⟩ := optW_iff.mp h1
    obtain ⟨l, ys, rfl, ha, ry⟩ := lstOf_seq t1.ok r1 h2
    rw [intsOf_eq h3] at ry
    rw [RepL.ints ry] at ha
    refine ⟨l, ns, rfl, ha, h1.1, fun m p pw mem len hp => ?_⟩
    have h3 := h1.2 m pw mem len
    cases own with
    | true =>
      rw [if_pos rfl] at h3
      have l := t1.ok.lay (o := .lst (m.map V.int)) (c := .lst (m.map .int)) hp ⟨_, upd_same, .of_ints m⟩
      exact q (.ref p) _ (.ref p) (t1.trans l) (.ref p) (h3 p (t1.ok.free hp).2)
    | false =>
      rw [if_neg Bool.false_ne_true] at h3
      have l := t1.ok.add (o := .lst (m.map V.int)) hp
      exact q (.ref p) _ (.lst (m.map .int)) (t1.trans l) (.lst upd_same (.of_ints m)) h3
end
section
variable {X : Cx} {W : WX} {a : Expr} {A : BE X.K} {p p2 q pos : Pos}
theorem P_sortSetI {own : Bool} (hm : X.mg "sorted" = none) (hm2 : X.mg "set" = none) (ha : PE X a (A.t W)) (hg : Gl X "sorted" := by rfl) (hg2 : Gl X "set" := by rfl) (hc : X.calm = true := by rfl)
    (na : starEach [a] X.env = (false, eval a X.env) :: starEach [] X.env := by rfl) : PE X (.Call (.Name "sorted" p) [.Call (.Name "set" p2) [a] [] q] [] pos) ((bSortSetI own A).t W) := pe_sortSetI hc hg hm hg2 hm2 ha na
end
section
variable {K : Fg} {ρ : En} {ω : Om} {Φ : D → Om → Prop} {Ψ : Exn → Om → Prop} {A : BE K}
theorem x_sortSetIF : (bSortSetI false A).w ρ ω Φ Ψ = A.w ρ ω (fun x ω1 => optW (lstOf ω1 x) fun us => optW (intsOf us) fun ns => NeedW (ns.length < 64) (∀ l : List Int, (l.Pairwise fun x y => x < y) → (∀ k, k ∈ l ↔ k ∈ ns) → l.length ≤ ns.length → Φ (.lst (l.map .int)) ω1)) Ψ := rfl
end
end T

/-! += and -= of numbers. -/
namespace T
open PySem L2
section
variable {K : Fg}
def iAdd : O2 K := oI0 (fun i j => .int (i + j)) (fun i j => .int (i + j)) fun _ _ _ => .int _
def iSub : O2 K := oI0 (fun i j => .int (i - j)) (fun i j => .int (i - j)) fun _ _ _ => .int _
theorem iop_iAdd {X : Cx} : OpR X (inplaceOp .Add) (iAdd (K := X.K)).r := fun pins s σ H x y v u Q I rx ry h => ip_add pins s σ H x y v u Q I rx ry h
theorem iop_iSub {X : Cx} : OpR X (inplaceOp .Sub) (iSub (K := X.K)).r := fun pins s σ H x y v u Q I rx ry h => ip_sub pins s σ H x y v u Q I rx ry h
theorem x_iAdd {ω : Om} {Φ : D → Om → Prop} {i j : Int} : (iAdd : O2 K).w (.int i) (.int j) ω Φ = Φ (.int (i + j)) ω := rfl
theorem x_iSub {ω : Om} {Φ : D → Om → Prop} {i j : Int} : (iSub : O2 K).w (.int i) (.int j) ω Φ = Φ (.int (i - j)) ω := rfl
end
end T

/-! sum(xs, start) of lists. -/
namespace T
open PySem PySem.Spec PyProof.Rows L2
theorem sub_list_str : isSubtype (.type "list") (.type "str") = pure false := by rw [isSubtype_type]; kernel_rfl
theorem sub_list_bytes : isSubtype (.type "list") (.type "bytes") = pure false := by rw [isSubtype_type]; kernel_rfl
theorem sub_list_bytearray : isSubtype (.type "list") (.type "bytearray") = pure false := by rw [isSubtype_type]; kernel_rfl
abbrev lObj (its : List Value) (n : Nat) : Obj := { cls := .type "list", data := .seq its.toArray n }
theorem cat_size (acc : List Value) (x : Addr × List Value × Nat) (r : List (Addr × List Value × Nat)) : (acc ++ x.2.1).length + (r.map (·.2.1.length)).sum = acc.length + ((x :: r).map (·.2.1.length)).sum := by simp; omega
section
variable {prog : Program} {w : World} {A : Around} {R : Result → Shared → Prop} {I : Addr} {fp wr : List Addr} {G : Array GenState → Array GenState → Prop} {P : Nat → Value → Prop} {St : Nat → Shared → Prop}
theorem sum_lists {L : List (Addr × List Value × Nat)} (W : WalksS prog w A.in1 I fp wr G L.length P St) (hval : ∀ i v, P i v → ∃ x, L[i]? = some x ∧ v = .ref x.1) (S : Addr) (hfp : ∀ b ∈ fp, b < S) (hL : ∀ x ∈ L, x.1 ∉ S :: wr) :
    ∀ (k i : Nat) (s : Shared) (p : Addr) (acc : List Value) (np c : Nat), L.length - i = k → i ≤ L.length → St i s → s.heap.get? S = some { cls := .type "list", dict := none, data := .seq #[.ref p] c, slots := #[] } →
    (∀ x ∈ L, s.heap.get? x.1 = some (lObj x.2.1 x.2.2)) → s.heap.get? p = some (lObj acc np) → p ∉ S :: wr → acc.length + ((L.drop i).map (·.2.1.length)).sum ≤ sizeLine →
    (∀ s' q n', Moved (S :: wr) G s s' → s'.heap.get? q = some (lObj (acc ++ ((L.drop i).map (·.2.1)).flatten) n') → ((q = p ∧ i = L.length) ∨ S < q) → R (.ok (.ret (.ref q))) s') → codeAny (model prog w) A (.builtin "sum.loop" ⟨[.ref I, .ref S, rawInt 2, rawInt 0], []⟩) R s := by
  have sub : ∀ b ∈ wr, b ∈ S :: wr := fun b hb => List.mem_cons_of_mem _ hb
  have hSw : S ∉ wr := fun h => Nat.lt_irrefl _ (hfp _ (W.sub _ h))
  have hSf : S ∉ fp := fun h => Nat.lt_irrefl _ (hfp _ h)
  intro k
  induction k with
  | zero =>
    intro i s p acc np c hk hi hst hS hl hp hpw hz hR
    obtain rfl : i = L.length := by omega
    refine codeAny_builtin F.entry_sum_loop ?_
    rw [Around.under_plainId F.plain_sum_loop _]
    show wpAny _ A.in1 (seqItems? (.ref S) >>= _) _ _ s
    refine wpAny_bind (wpAny_seqItems hS rfl ?_)
    show wpAny _ A.in1 (tryCatch (pyNext (.ref I)) _ >>= _) _ _ s
    refine wpAny_bind (wpAny_tryCatch (W.done s _ _ hst fun s' hm => ?_))
    refine wpAny_pure (hR s' p np (hm.mono sub) ?_ (.inl ⟨rfl, rfl⟩))
    rw [List.drop_length, List.map_nil, List.flatten_nil, List.append_nil]
    exact hm.heap p _ (fun h => hpw (sub _ h)) hp
  | succ k ih =>
    intro i s p acc np c hk hi hst hS hl hp hpw hz hR
    have hlt : i < L.length := by omega
    refine codeAny_builtin F.entry_sum_loop ?_
    rw [Around.under_plainId F.plain_sum_loop _]
    show wpAny _ A.in1 (seqItems? (.ref S) >>= _) _ _ s
    refine wpAny_bind (wpAny_seqItems hS rfl ?_)
    show wpAny _ A.in1 (tryCatch (pyNext (.ref I)) _ >>= _) _ _ s
    refine wpAny_bind (wpAny_tryCatch (W.item i s _ _ hlt hst fun v s' hP hst' hm => ?_))
    obtain ⟨x, hx, rfl⟩ := hval i v hP
    have hxm := List.mem_of_getElem? hx
    have hd : L.drop i = x :: L.drop (i + 1) := by
      rw [List.drop_eq_getElem_cons hlt]
      congr 1
      rw [List.getElem?_eq_getElem hlt] at hx
      exact Option.some.inj hx
    have hS' := hm.heap S _ hSw hS
    have hp' := hm.heap p _ (fun h => hpw (sub _ h)) hp
    have hx' := hm.heap x.1 _ (fun h => hL x hxm (sub _ h)) (hl x hxm)
    have hz1 := hz
    rw [hd, ← cat_size] at hz1
    rw [List.length_append] at hz1
    show wpAny _ A.in1 ((holding [Value.ref x.1] (binaryOp .Add (.ref p) (.ref x.1))).attempt >>= _) _ _ _
    refine wpAny_bind (wpAny_attempt (wpAny_holding (PySem.P.add_list (n := np) (n2 := x.2.2) hp' hx' ?_ (by rw [List.size_toArray, List.size_toArray]; omega))))
    have hq : S < s'.heap.objs.size := Heap.lt_size hS'
    have ea : acc.toArray ++ x.2.1.toArray = (acc ++ x.2.1).toArray := by simp
    rw [ea]
    have hS1 : (s'.heap.push (lObj (acc ++ x.2.1) 0)).get? S = some { cls := .type "list", dict := none, data := .seq #[.ref p] c, slots := #[] } := Heap.get?_push_of_some _ hS'
    show wpAny _ A.in1 (updateSeq S (fun _ => #[.ref s'.heap.objs.size]) >>= _) _ _ _
    refine wpAny_bind (wpAny_updateSeq hS1 rfl ?_)
    have hS2 := Heap.get?_update_self (Obj.mapSeq fun _ => #[Value.ref s'.heap.objs.size]) hS1 rfl
    have far : ∀ b o, b ≠ S → s'.heap.get? b = some o → ((((s'.heap.push (lObj (acc ++ x.2.1) 0)).update S (Obj.mapSeq fun _ => #[Value.ref s'.heap.objs.size])).update S (Obj.mapSeq fun _ => #[Value.ref s'.heap.objs.size])).get? b = some o) := fun b o hb e =>
      (Heap.get?_update_other _ _ (fun h : S = b => hb h.symm)).trans ((Heap.get?_update_other _ _ (fun h : S = b => hb h.symm)).trans (Heap.get?_push_of_some _ e))
    refine wpAny_bind (wpAny_letGo ?_)
    refine wpAny_bind (wpAny_updateSeq hS2 rfl (wpAny_pure ⟨plainId_quiet F.plain_sum_loop _, ih (i + 1) _ s'.heap.objs.size (acc ++ x.2.1) 0 _ (by omega) hlt (W.frame _ s' _ _ hst' (by first | exact Nat.le_refl _ | exact Nat.le_succ _ | omega) fun b hb o e => far b o (fun h => hSf (h ▸ hb)) e) (Heap.get?_update_self _ hS2 rfl) (fun y hy => far _ _ (fun h => hL y hy (by rw [h]; exact List.mem_cons_self)) (hm.heap y.1 _ (fun h => hL y hy (sub _ h)) (hl y hy))) ?_ ?_ ?_ fun s'' q n' hm'' hq' hor => ?_⟩))
    · exact (Heap.get?_update_other _ _ (Nat.ne_of_lt hq)).trans ((Heap.get?_update_other _ _ (Nat.ne_of_lt hq)).trans (Heap.get?_push_size _ rfl))
    · intro h
      rcases List.mem_cons.mp h with h | h
      · exact absurd h (Nat.ne_of_gt hq)
      · exact absurd (hfp _ (W.sub _ h)) (Nat.lt_asymm hq)
    · rw [List.length_append]; exact hz1
    · refine hR s'' q n' (Moved.trans W.gtrans ((hm.mono sub).then_heap (by first | exact Nat.le_refl _ | exact Nat.le_succ _ | omega) fun b o hb e => far b o (fun h => hb (by rw [h]; exact List.mem_cons_self)) e) hm'') ?_ (.inr ?_)
      · rw [hd, List.map_cons, List.flatten_cons, ← List.append_assoc]; exact hq'
      · rcases hor with ⟨rfl, _⟩ | h
        · exact hq
        · exact h
end
section
variable {prog : Program} {w : World} {A : Around} {E : Value → Shared → Prop} {s : Shared}
theorem call_sum_lists {l b : Addr} {vs : List Value} {nv nb : Nat} {acc : List Value} {L : List (Addr × List Value × Nat)} {Q : Value → Shared → Prop} (hh : A.handled = none) (hl : s.heap.get? l = some (lObj vs nv)) (hb : s.heap.get? b = some (lObj acc nb)) (hv : vs = L.map fun x => .ref x.1)
    (hL : ∀ x ∈ L, s.heap.get? x.1 = some (lObj x.2.1 x.2.2)) (hz : acc.length + (L.map (·.2.1.length)).sum ≤ sizeLine)
    (h : ∀ h' tk q n', (∀ b o, s.heap.get? b = some o → h'.get? b = some o) → h'.get? q = some (lObj (acc ++ (L.map (·.2.1)).flatten) n') → ((q = b ∧ L = []) ∨ s.heap.objs.size ≤ q) → Q (.ref q) { s with heap := h', toks := tk }) :
    wpAny (model prog w) A (call (.builtin "sum") [.ref l, .ref b]) Q E s := by
  refine call_function_tree F.kind_sum F.plain_sum F.entry_sum (by unfold argsOk; kernel_rfl) ?_
  unfold Builtin.«sum»
  simp only [List.length_cons, List.length_nil]
  rw [if_neg (by decide)]
  refine wpAny_bind (wpAny_of_eq (show Builtin.Builtins.bindParams "sum" ["start"] 0 ⟨[.ref b], []⟩ = pure [some (.ref b)] from rfl) ?_)
  have hl1 : s.heap.IsList l vs.toArray := ⟨_, hl, rfl, _, rfl⟩
  refine wpAny_bind (PySem.W.iter_listW (A := A.in1) (by simp [hh]) hl1 fun s₂ e2 W st hfp hw hk => ?_)
  have hsz : vs.toArray.size = L.length := by rw [List.size_toArray, hv, List.length_map]
  rw [hsz] at W
  refine wpAny_bind (wpAny_pure ?_)
  simp only [List.forIn_cons, List.forIn_nil]
  have hb2 := hk _ _ hb
  have tb : s₂.TypeIs (.ref b) "list" := ⟨_, hb2, rfl⟩
  refine wpAny_bind (wpAny_bind (wpAny_bind (wpAny_isInstance (T := "list") (b := false) tb sub_list_str ?_)))
  simp only [Bool.false_eq_true, if_false]
  refine wpAny_pure (wpAny_bind (wpAny_bind (wpAny_isInstance (T := "list") (b := false) tb sub_list_bytes ?_)))
  simp only [Bool.false_eq_true, if_false]
  refine wpAny_pure (wpAny_bind (wpAny_bind (wpAny_isInstance (T := "list") (b := false) tb sub_list_bytearray ?_)))
  simp only [Bool.false_eq_true, if_false]
  refine wpAny_pure (wpAny_pure ?_)
  refine wpAny_bind (wpAny_newObj_type ?_)
  have old : ∀ c o, s.heap.get? c = some o → c ∉ s₂.heap.objs.size :: [s.heap.objs.size] := fun c o e h => by
    rcases List.mem_cons.mp h with h | h
    · exact absurd (Heap.lt_size (hk c o e)) (by rw [h]; exact Nat.lt_irrefl _)
    · exact hw c o e h
  refine wpAny_pure ⟨plainId_quiet F.plain_sum_loop _, sum_lists W (fun i v hP => ?_) s₂.heap.objs.size hfp (fun x hx => old _ _ (hL x hx)) L.length 0 _ b acc nb 0 rfl (Nat.zero_le _)
    (W.frame 0 s₂ _ _ st (by first | exact Nat.le_refl _ | exact Nat.le_succ _ | omega) fun c _ o e => Heap.get?_push_of_some _ e) (Heap.get?_push_size _ rfl) (fun x hx => Heap.get?_push_of_some _ (hk _ _ (hL x hx))) (Heap.get?_push_of_some _ hb2) (old _ _ hb) hz fun s' q n' hm hq hor => ?_⟩
  · have hi := (Array.getElem?_eq_some_iff.mp hP).1
    rw [hsz] at hi
    refine ⟨L[i], List.getElem?_eq_getElem hi, ?_⟩
    have : vs[i]? = some v := by simpa using hP
    rw [hv, List.getElem?_map, List.getElem?_eq_getElem hi] at this
    exact (Option.some.inj this).symm
  · have m2 : Moved [s.heap.objs.size] (fun a b => b = a) s₂ s' := hm.drop_new (by first | exact Nat.le_refl _ | exact Nat.le_succ _ | omega)
    obtain ⟨h', tk, rfl, hk'⟩ := PySem.W.moved_old e2 rfl m2
    refine h h' tk q n' hk' hq ?_
    rcases hor with ⟨h1, h2⟩ | h1
    · exact .inl ⟨h1, List.eq_nil_of_length_eq_zero h2.symm⟩
    · right
      have : s.heap.objs.size < s₂.heap.objs.size := by rw [e2]; show _ < (s.heap.push _).objs.size; rw [Heap.size_push]; exact Nat.lt_succ_self _
      exact Nat.le_of_lt (Nat.lt_trans this h1)
end
section
variable {X : Cx}
def rSumL : List V → Hp → VK → Prop := fun vs H Q => ∃ (a b : Addr) (ps : List (Addr × List V)) (ys : List V), vs = [.ref a, .ref b] ∧ H a = some (.lst (ps.map fun p => V.ref p.1)) ∧ H b = some (.lst ys) ∧ (∀ p ∈ ps, H p.1 = some (.lst p.2)) ∧ ys.length + (ps.map (·.2.length)).sum ≤ 16777216 ∧
  (ps = [] → Q (.ref b) H) ∧ ∀ p, H p = none → Q (.ref p) (upd H p (.lst (ys ++ (ps.map (·.2)).flatten)))
theorem refs_vals : ∀ {ps : List (Addr × List V)} {us : List Value}, Vals (ps.map fun p => V.ref p.1) us → us = ps.map fun p => Value.ref p.1
  | [], _, h => by cases h; rfl
  | p :: r, _, h => by
    cases h with
    | cons h1 h2 =>
      cases h1
      rw [refs_vals h2]; rfl
theorem lists_at {pins : List (Addr × Obj)} {σ : L2.St} {H : Hp} {s : Shared} (I : Inv X pins σ H s) : ∀ {ps : List (Addr × List V)}, (∀ p ∈ ps, H p.1 = some (.lst p.2)) → ∃ L : List (Addr × List Value × Nat), (L.map fun x => Value.ref x.1) = (ps.map fun p => Value.ref p.1) ∧ (∀ x ∈ L, s.heap.get? x.1 = some (lObj x.2.1 x.2.2)) ∧ L.map (·.2.1.length) = ps.map (·.2.length) ∧ Vals (ps.map (·.2)).flatten (L.map (·.2.1)).flatten
  | [], _ => ⟨[], rfl, by simp, rfl, .nil⟩
  | p :: r, h => by
    obtain ⟨z, its, n, rv, hl, e⟩ := I.lstM (h p List.mem_cons_self)
    obtain ⟨L, h1, h2, h3, h4⟩ := lists_at I (ps := r) fun q hq => h q (List.mem_cons_of_mem _ hq)
    refine ⟨(p.1, its, n) :: L, by simp [h1], fun x hx => ?_, by simp [h3, hl], rv.append h4⟩
    rcases List.mem_cons.mp hx with rfl | hx
    · exact e
    · exact h2 x hx
theorem cr_sumL (hc : X.calm = true) : CallR X (.builtin "sum") rSumL := by
  intro pins s σ H vs us Q I r h
  obtain ⟨a, b, ps, ys, rfl, ha, hb, hps, hz, q0, q1⟩ := h
  cases r with
  | cons ra rr =>
  cases rr with
  | cons rb rr =>
  cases rr
  cases ra
  cases rb
  obtain ⟨_, its, n, rv, hl, e⟩ := I.lstM ha
  obtain ⟨_, its2, n2, rv2, hl2, e2⟩ := I.lstM hb
  obtain ⟨L, h1, h2, h3, h4⟩ := lists_at I hps
  have hv := refs_vals rv
  refine call_sum_lists (I.ok.hd hc) e e2 (hv.trans h1.symm) h2 (by rw [h3, ← hl2, sizeLine_eq]; exact hz) fun h' tk q n' hk hq hor => ?_
  rcases hor with ⟨rfl, rfl⟩ | hp
  · have : ps = [] := by
      cases ps with
      | nil => rfl
      | cons => simp at h3
    exact ⟨.ref _, H, I.kept hk, rfl, q0 this⟩
  · have hn : H q = none := I.hok.fresh hp
    have hlen : (ys ++ (ps.map (·.2)).flatten).length ≤ sizeLine := by
      rw [List.length_append, List.length_flatten, List.map_map, sizeLine_eq]
      exact hz
    have J : Inv X pins σ (upd H q (.lst (ys ++ (ps.map (·.2)).flatten))) { s with heap := h', gens := s.gens, drawn := s.drawn, toks := tk } :=
      I.call (ch := []) (Un.laid hk hp hn) (I.hok.laid hk hp ⟨hlen, _, n', rv2.append h4, hq⟩) I.bare (fun _ z => nomatch z)
    exact ⟨.ref q, _, J, rfl, q1 q hn⟩
end
section
variable {K : Fg}
theorem repL_lists {H : Hp} : ∀ {xs : List V} {pss : List (List D)}, RepL K H xs (pss.map .lst) → ∃ ps : List (Addr × List V), xs = (ps.map fun p => V.ref p.1) ∧ (∀ p ∈ ps, H p.1 = some (.lst p.2)) ∧ ps.map (·.2.length) = pss.map (·.length) ∧ RepL K H (ps.map (·.2)).flatten pss.flatten
  | _, [], h => by cases h; exact ⟨[], rfl, by simp, rfl, .nil⟩
  | _, ds :: r, h => by
    cases h with
    | cons h1 h2 =>
      obtain ⟨a, ys, rfl, ha, ry⟩ := rep_lst h1
      obtain ⟨ps, rfl, e2, e3, e4⟩ := repL_lists h2
      refine ⟨(a, ys) :: ps, rfl, fun p hp => ?_, by simp [e3, ry.length], ry.append e4⟩
      rcases List.mem_cons.mp hp with rfl | hp
      · exact ha
      · exact e2 p hp
/-- sum(lists, list), of lists that stay -/
def cSumL : CB K where
  r := rSumL
  w := fun ds ω Φ => ∃ (pss : List (List D)) (es : List D), ds = [.lst (pss.map .lst), .lst es] ∧ es.length + (pss.map (·.length)).sum ≤ 16777216 ∧ Φ (.lst (es ++ pss.flatten)) ω
  ok := fun z xs ds Q Φ h k r q => by
    obtain ⟨pss, es, rfl, hz, h⟩ := h
    cases r with
    | cons r1 r =>
    cases r with
    | cons r2 r =>
    cases r
    obtain ⟨a, ys, rfl, ha, ry⟩ := rep_lst r1
    obtain ⟨b, zs, rfl, hb, rz⟩ := rep_lst r2
    obtain ⟨ps, rfl, e2, e3, e4⟩ := repL_lists ry
    refine ⟨a, b, ps, zs, rfl, k.fz _ _ ha, k.fz _ _ hb, fun p hp => k.fz _ _ (e2 p hp), by rw [e3, rz.length]; exact hz, fun c => ?_, fun p hp => ?_⟩
    · subst c
      have : pss = [] := by
        cases pss with
        | nil => rfl
        | cons => simp at e3
      subst this
      have h : Φ (.lst (es ++ [])) z.o := h
      rw [List.append_nil] at h
      exact q _ z _ k.to r2 h
    · have t := k.add (o := .lst (zs ++ (ps.map (·.2)).flatten)) hp
      exact q _ _ _ t (.lst upd_same ((rz.append e4).mono t.ex)) h
theorem call_cSumL {X : Cx} (hc : X.calm = true := by rfl) : CallR X (.builtin "sum") (cSumL (K := X.K)).r := cr_sumL hc
theorem w_sumL {ω : Om} {Φ : D → Om → Prop} {pss : List (List D)} {es : List D} (hz : es.length + (pss.map (·.length)).sum ≤ 16777216) (h : Φ (.lst (es ++ pss.flatten)) ω) : (cSumL : CB K).w [.lst (pss.map .lst), .lst es] ω Φ := ⟨pss, es, rfl, hz, h⟩
end
end T

/-! Exceptions: defs that may raise, raise, try, what was caught. -/
namespace T
open PySem L2
/-! ### kinds: n: the context of what is raised is None -/
abbrev TakesK (n : Bool) (X : Cx) (W : WX) : Prop := match n with
  | true => L2N.Takes X W
  | false => L2.Takes X W
abbrev CXk (n : Bool) (P : Program) (w : World) : CXT := match n with
  | true => L2N.CX P w
  | false => L2.CX P w
section
variable {X : Cx} {W : WX} {n m : Bool}
theorem sky_imp {B h : Heap} {l : List Env} {a L : Addr} {Z Y : Obj → Prop} (z : ∀ o, Z o → Y o) (k : Sky B l a Z L h) : Sky B l a Y L h := by
  rcases k with ⟨k1, k2, k3, oe, vs, k4, k5, k6⟩ | k | ⟨k1, k2, k3, k4⟩
  · exact .inl ⟨k1, k2, k3, oe, vs, k4, z _ k5, k6⟩
  · exact .inr (.inl (L2H.flyingZ_imp z k))
  · exact .inr (.inr ⟨k1, k2, k3, L2H.tracedZ_imp z k4⟩)
theorem takesN (t : TakesK n X W) : L2N.Takes X W := by
  cases n with
  | true => exact t
  | false =>
    rintro u s2 ⟨a, B, sI, pins, σ, H, cls, d, e1, e2, e3, e4, e5, e6⟩
    exact t u s2 ⟨a, B, sI, pins, σ, H, cls, d, e1, e2, e3, e4, sky_imp (fun _ k => k.zc) e5, e6⟩
theorem takesK0 : TakesK n X (fun _ _ _ _ => False) := by
  cases n with
  | true => exact takesN (n := false) takes0
  | false => exact takes0
/-- a callee of kind m within what takes kind n -/
theorem passK (hnm : n = true → m = true) (tk : TakesK n X W) (σ : L2.St) : PassesAt (CXk m X.prog X.w) X σ (WE W σ) := by
  cases m with
  | true => exact L2N.passAt (takesN tk) σ
  | false =>
    cases n with
    | true => exact absurd (hnm rfl) Bool.false_ne_true
    | false => exact L2.passAt tk σ
end
/-! ### defs that may raise, and their calls -/
abbrev WPX := List D → Om → (D → Om → Prop) → (Exn → Om → Prop) → Prop
def SpPX (K : Fg) (W : WPX) : Sp := fun vs H Q E => ∃ (z : Z) (ds : List D) (Φ : D → Om → Prop) (Ψ : Exn → Om → Prop), z.h = H ∧ z.Ok K ∧ RepL K z.d vs ds ∧ W ds z.o Φ Ψ ∧
  (∀ v z2 d, To K z z2 → Rep K z2.d v d → Φ d z2.o → Q v z2.h) ∧ ∀ x cls d z2, To K z z2 → RepX K z2 cls d x → Ψ x z2.o → E cls d z2.h
section
variable {P : Program} {w : World} {K : Fg} {mg : Str → Option Value} {base : Heap}
def OkPX (n : Bool) (P : Program) (w : World) (K : Fg) (mg : Str → Option Value) (base : Heap) (k : Nat) (p : Str × Option Str) (ps : List Str) (W : WPX) : Prop :=
  ∃ fd, FnOk P w K mg base (CXk n P w) k (He.fAd K p) fd ps (SpPX K W) ∧ Binds K fd ps [] ∧ ∃ oc od osl, K.lookup (He.fAd K p) = some ⟨oc, od, .func fd, osl⟩
theorem fnPX (n : Bool) {name qual : Str} {st : Stmt} {p : Str × Option Str} {N ps : List Str} {k : Nat} (F : FnD K name qual st [] p) (S : FnScope N ps (defScope st)) {W : WPX} {l : Nat} (hn : N.length = l) (B : BS K)
    (hbi : ∀ (kV doc pm : Value) (an : Option Addr) (cdv ct : Value) (us : List Value), us.length = ps.length → bindArgs (PySem.W.fnOf name qual (defArgs st) (defBody st) (defScope st) .none kV doc pm an cdv ct) ⟨us, []⟩ = pure (ps.zip us))
    (len : ∀ ds ω Φ Ψ, W ds ω Φ Ψ → ds.length = ps.length)
    (hb : ∀ (f : Addr) (cdv : Value) (A : Around) (outer : List Env) (s : Shared) (H : Hp) (E : XK), Room k (A.deeper (PyProof.Rows.envOfC qual (defScope st) s.heap.objs.size f cdv)) →
      TakesK n (cxOf (CXk n P w) P w K mg base N qual (defScope st) f cdv A outer s H E) (fun cls d _ H => E cls d H) →
      PassesOwn (model P w) (A.deeper (PyProof.Rows.envOfC qual (defScope st) s.heap.objs.size f cdv)) (PyProof.Rows.envOfC qual (defScope st) s.heap.objs.size f cdv) (cxOf (CXk n P w) P w K mg base N qual (defScope st) f cdv A outer s H E).xe →
      PSs (cxOf (CXk n P w) P w K mg base N qual (defScope st) f cdv A outer s H E) (defBody st) (B.t fun cls d _ H => E cls d H))
    (hw : ∀ ds ω Φ Ψ, W ds ω Φ Ψ → B.w (startD l ds) ω ⟨fun _ ω => Φ .non ω, Φ, fun _ _ => False, fun _ _ => False, fun x _ ω => Ψ x ω⟩) : OkPX n P w K mg base (k + 1) p ps W := by
  obtain ⟨fd, F⟩ := F
  have bi := F.bindsN hbi
  obtain ⟨oc, od, _, _, _, _, _, cdv, _, osl, rfl, lk, hcd, _⟩ := F.ex
  refine ⟨_, fn_of (CX := CXk n P w) lk hcd S (fun vs H Q E h => ?_) (fun A outer s H vs Q E hr h => ⟨B.t fun cls d _ H => E cls d H, hb _ cdv A outer s H E hr ?_ ?_, ?_⟩), bi, ⟨oc, od, osl, lk⟩⟩
  · obtain ⟨z, ds, Φ, Ψ, _, _, r, hW, _⟩ := h
    rw [r.length]
    exact len ds _ _ _ hW
  · cases n with
    | true => exact L2N.takes_of rfl rfl rfl rfl
    | false => exact L2.takes_of rfl rfl rfl rfl
  · exact PassesOwn.leaving
  · obtain ⟨z, ds, Φ, Ψ, rfl, ok, r, hW, q, qx⟩ := h
    subst hn
    exact B.ok _ (startD N.length ds) z (L2.start N vs) _ _ (hw ds z.o Φ Ψ hW) ok (rep_start r) ⟨fun σ2 ρ2 z2 t _ h2 => q .non z2 .non t .non h2, fun v d z2 t r2 h2 => q v z2 d t r2 h2, fun _ _ _ _ _ h => h.elim, fun _ _ _ _ _ h => h.elim, fun x cls d σ2 ρ2 z2 t _ rx h2 => qx x cls d z2 t rx h2⟩
/-- a call of a def that may raise -/
def bCallX (W : WPX) (a : BA K) : BE K where
  t := fun V => tCallS (SpPX K W) (WE V) (a.t V)
  w := fun ρ ω Φ Ψ => a.w ρ ω (fun xs ω1 => W xs ω1 Φ Ψ) Ψ
  ok := fun V ρ z σ Q Φ Ψ h ok r q qx => by
    refine a.ok V ρ z σ _ _ Ψ h ok r (fun xs z1 es t1 r1 h1 => ?_) qx
    exact ⟨z1, es, Φ, Ψ, rfl, t1.ok, r1, h1, fun v z2 d t2 => q v z2 d (t1.trans t2), fun x cls d z2 t2 => qx x cls d z2 (t1.trans t2)⟩
theorem x_callX {W : WPX} {a : BA K} {ρ : En} {ω : Om} {Φ : D → Om → Prop} {Ψ : Exn → Om → Prop} : (bCallX W a).w ρ ω Φ Ψ = a.w ρ ω (fun xs ω1 => W xs ω1 Φ Ψ) Ψ := rfl
end
section
variable {X : Cx} {W : WX} {x : Str} {e : Expr} {es : List Expr} {As : BA X.K} {p pos : Pos} {n m : Bool}
theorem P_callX {k : Nat} {ps : List Str} {Wf : WPX} (F : OkPX m X.prog X.w X.K X.mg X.base k (x, none) ps Wf) (hr : Room k X.A) (tk : TakesK n X W) (hm : X.mg x = some (.ref (He.ga X.K x))) (hk : PySem.W.keepIn X.K (.ref (He.ga X.K x)) = true)
    (ha : PA X (e :: es) (As.t W)) (hnm : n = true → m = true := by decide) (hg : Gl X x := by rfl) (hdb : (x == ("__debug__" : Str)) = false := by decide) (he : starEach (e :: es) X.env = (false, eval e X.env) :: starEach es X.env := by rfl) (hpl : (backTo pos (starEach es X.env)).any (·.1) = false := by rfl) :
    PE X (.Call (.Name x p) (e :: es) [] pos) ((bCallX Wf As).t W) := by
  obtain ⟨fd, F1, F2, _⟩ := F
  exact pe_callS F1 hr hg hm hk F2 (fun σ => passK hnm tk σ) ha hdb he hpl
end
end T

/-! Exception classes of the text: what K tells of them; raise. -/
namespace T
open PySem L2
/-! ### what K tells of the classes -/
/-- the classes linked: each with its field, if it has one; all are classes over TierError, over ValueError -/
abbrev ECls := List (Str × Option Str)
def subX (p q : Str) : Bool := p == q || q == ("TierError" : Str)
def excTail : List Value := [.type "ValueError", .type "Exception", .type "BaseException", .type "object"]
/-- the class's own record -/
def recB (K : Fg) (C : Addr) : Bool := match K.lookup C with
  | some ⟨.type "type", _, .cls cd, sl⟩ => (match cd.mro, sl.toList with
    | .ref C' :: bm, [_, _, _, _, some (.builtin n), _] => C' == C && n == "ValueError.__new__" && !cd.hasDel && cd.hasDict && PySem.HandSPX.refsVE bm
    | _, _ => false)
  | _ => false
def cls1B (K : Fg) (C : Addr) : Bool :=
  PySem.W.subIn K (.ref C) (.type "BaseException") == some true && PySem.W.typeIn K (.ref C) == some (.type "type") && PySem.W.keepIn K (.ref C) && PySem.W.hasDictIn K C &&
  PySem.W.findIn K (.ref C) "__getattribute__" == some (some (.builtin "BaseException.__getattribute__")) && PySem.W.findIn K (.ref C) "__getattr__" == some none &&
  PySem.W.findIn K (.ref C) "__class__" == some (some (.builtin "object.__class__")) && PySem.W.specialIn K (.builtin "object.__class__") "__get__" == some (some (.builtin "getset_descriptor.__get__")) &&
  PySem.W.takesIn K (.builtin "object.__class__") == some true && PySem.W.mroIn K C (.type "object") == some true && PySem.W.kitOne K (.ref C) (.type "ValueError") == some true
structure Cls1 (K : Fg) (C : Addr) : Prop where
  sb : PySem.W.subIn K (.ref C) (.type "BaseException") = some true
  ty : PySem.W.typeIn K (.ref C) = some (.type "type")
  kp : PySem.W.keepIn K (.ref C) = true
  hd : PySem.W.hasDictIn K C = true
  ga : PySem.W.findIn K (.ref C) "__getattribute__" = some (some (.builtin "BaseException.__getattribute__"))
  gg : PySem.W.findIn K (.ref C) "__getattr__" = some none
  cl : PySem.W.findIn K (.ref C) "__class__" = some (some (.builtin "object.__class__"))
  cg : PySem.W.specialIn K (.builtin "object.__class__") "__get__" = some (some (.builtin "getset_descriptor.__get__"))
  ct : PySem.W.takesIn K (.builtin "object.__class__") = some true
  mo : PySem.W.mroIn K C (.type "object") = some true
  ve : PySem.W.kitOne K (.ref C) (.type "ValueError") = some true
theorem cls1_of {K : Fg} {C : Addr} (h : cls1B K C = true) : Cls1 K C := by
  unfold cls1B at h
  simp only [Bool.and_eq_true, beq_iff_eq] at h
  obtain ⟨⟨⟨⟨⟨⟨⟨⟨⟨⟨h1, h2⟩, h3⟩, h4⟩, h5⟩, h6⟩, h7⟩, h8⟩, h9⟩, h10⟩, h11⟩ := h
  exact ⟨h1, h2, h3, h4, h5, h6, h7, h8, h9, h10, h11⟩
def fldB (K : Fg) (C : Addr) (c f : Str) : Bool :=
  recB K C && PySem.W.findIn K (.ref C) "__setattr__" == some (some (.builtin "object.__setattr__")) && PySem.W.findIn K (.ref C) "__init__" == some (some (.ref (He.fAd K (c, some "__init__")))) &&
  PySem.W.typeIn K (.ref (He.fAd K (c, some "__init__"))) == some (.type "function") && PySem.W.findIn K (.ref C) f == some none
def ownB (K : Fg) (p : Str × Option Str) : Bool := match p.2 with
  | none => PySem.W.excIn K (He.ga K p.1) excTail "ValueError.__new__"
  | some f => fldB K (He.ga K p.1) p.1 f
def pairB (K : Fg) (p q : Str × Option Str) : Bool :=
  PySem.W.exmOne K (.ref (He.ga K p.1)) (.ref (He.ga K q.1)) == some (subX p.1 q.1) && PySem.W.kitOne K (.ref (He.ga K p.1)) (.ref (He.ga K q.1)) == some (subX p.1 q.1)
def topB (K : Fg) : Bool := PySem.W.readsIn K (He.ga K "TierError") (.type "type") && PySem.W.specialIn K (.ref (He.ga K "TierError")) "__getattribute__" == some (some (.builtin "type.__getattribute__")) &&
  (match PySem.W.findCls K (.ref (He.ga K "TierError")) (.type "type") "__init__" with
    | some (.val v) => v == .builtin "ValueError.__init__"
    | _ => false)
def excB (l : ECls) (K : Fg) : Bool := topB K && l.all fun p => cls1B K (He.ga K p.1) && ownB K p && l.all (pairB K p)
/-- the facts of the exception classes -/
structure XFs (K : Fg) (l : ECls) : Prop where
  all : excB l K = true
section
variable {K : Fg} {l : ECls} (F : XFs K l) {c d : Str} {f g : Option Str}
include F
theorem XFs.one (h : (c, f) ∈ l) : cls1B K (He.ga K c) = true ∧ ownB K (c, f) = true ∧ l.all (pairB K (c, f)) = true := by
  have := F.all
  unfold excB at this
  rw [Bool.and_eq_true, List.all_eq_true] at this
  have := this.2 _ h
  rw [Bool.and_eq_true, Bool.and_eq_true] at this
  exact ⟨this.1.1, this.1.2, this.2⟩
theorem XFs.c1 (h : (c, f) ∈ l) : Cls1 K (He.ga K c) := cls1_of (F.one h).1
theorem XFs.pair (h : (c, f) ∈ l) (h2 : (d, g) ∈ l) : PySem.W.exmOne K (.ref (He.ga K c)) (.ref (He.ga K d)) = some (subX c d) ∧ PySem.W.kitOne K (.ref (He.ga K c)) (.ref (He.ga K d)) = some (subX c d) := by
  have := List.all_eq_true.mp (F.one h).2.2 _ h2
  unfold pairB at this
  simpa only [Bool.and_eq_true, beq_iff_eq] using this
theorem XFs.own (h : (c, none) ∈ l) : PySem.W.excIn K (He.ga K c) excTail "ValueError.__new__" = true := (F.one h).2.1
theorem XFs.fld {f : Str} (h : (c, some f) ∈ l) : OexC K (He.ga K c) ∧ PySem.W.findIn K (.ref (He.ga K c)) "__init__" = some (some (.ref (He.fAd K (c, some "__init__")))) ∧
    PySem.W.typeIn K (.ref (He.fAd K (c, some "__init__"))) = some (.type "function") ∧ PySem.W.findIn K (.ref (He.ga K c)) f = some none := by
  have h1 := (F.one h).2.1
  have h1 : fldB K (He.ga K c) c f = true := h1
  have C := F.c1 h
  unfold fldB at h1
  simp only [Bool.and_eq_true, beq_iff_eq] at h1
  obtain ⟨⟨⟨⟨h1, h2⟩, h3⟩, h4⟩, h5⟩ := h1
  refine ⟨⟨?_, h2, C.sb, C.ty, C.kp⟩, h3, h4, h5⟩
  unfold recB at h1
  split at h1
  · rename_i dd cd sl ho
    split at h1
    · rename_i C' bm k0 k1 k2 k3 n k5 hm hs
      simp only [Bool.and_eq_true, beq_iff_eq, Bool.not_eq_true'] at h1
      obtain ⟨⟨⟨⟨rfl, rfl⟩, hdel⟩, hdc⟩, hbm⟩ := h1
      obtain ⟨nm, bs, mro, ns, qn, hd, sn, sub, ab, col, del⟩ := cd
      dsimp only at hm hdel hdc
      subst hm hdel hdc
      obtain ⟨sl⟩ := sl
      dsimp only at hs
      subst hs
      exact ⟨nm, qn, ns, bs, bm, sn, sub, ab, col, dd, k0, k1, k2, k3, k5, ho, hbm⟩
    · cases h1
  · cases h1
theorem XFs.top : PySem.W.readsIn K (He.ga K "TierError") (.type "type") = true ∧ PySem.W.specialIn K (.ref (He.ga K "TierError")) "__getattribute__" = some (some (.builtin "type.__getattribute__")) ∧
    PySem.W.findCls K (.ref (He.ga K "TierError")) (.type "type") "__init__" = some (.val (.builtin "ValueError.__init__")) := by
  have := F.all
  unfold excB topB at this
  simp only [Bool.and_eq_true, beq_iff_eq] at this
  obtain ⟨⟨⟨h1, h2⟩, h3⟩, _⟩ := this
  refine ⟨h1, h2, ?_⟩
  split at h3
  · rename_i v e
    rw [e, beq_iff_eq.mp h3]
  · cases h3
end
/-! ### raise C("..") -/
section
variable {K : Fg}
def bsRaise (c : Str) : BS K where
  t := fun V _ σ H => V (.ref (He.ga K c)) none σ H
  w := fun ρ ω k => k.xc ⟨c, none⟩ ρ ω
  ok := fun V ρ z σ D' k h ok r hk => hk.xc _ _ _ _ _ _ ok.to r ⟨rfl, rfl⟩ h
theorem x_raise {c : Str} {ρ : En} {ω : Om} {k : KD} : (bsRaise c : BS K).w ρ ω k = k.xc ⟨c, none⟩ ρ ω := rfl
end
section
variable {X : Cx} {W : WX} {n : Bool} {l : ECls}
theorem S_raise {c m : Str} {j : Nat} {p p2 pos pos' : Pos} (F : XFs X.K l) (tk : TakesK n X W) (gC : X.mg c = some (.ref (He.ga X.K c))) (hl : (c, none) ∈ l := by decide) (hc : X.calm = true := by rfl) (hg : Gl X c := by rfl) (hdb : (c == ("__debug__" : Str)) = false := by decide) :
    PS X (.Raise (some (.Call (.Name c p) [.Constant (.str m) j p2] [] pos)) none pos') ((bsRaise c : BS X.K).t W) := by
  have C := F.c1 hl
  exact L2N.ps_raise hc (takesN tk) (L2N.pmk_own PySem.F.excBase_ValueError (F.own hl) gC C.kp (raises_own C.sb C.ty) hg hdb)
end
/-! ### __init__: what it keeps -/
/-- C.__init__(self, ..), C a class of the text that has no __init__ of its own -/
theorem pe_tinit {X : Cx} {e : Expr} {es : List Expr} {ta : TA} {p1 p2 pos : Pos} {pl : Sem Bool} {x : Str} {C : Addr} (hm : X.mg x = some (.ref C)) (h1 : PySem.W.readsIn X.K C (.type "type") = true)
    (h2 : PySem.W.specialIn X.K (.ref C) "__getattribute__" = some (some (.builtin "type.__getattribute__"))) (h3 : PySem.W.findCls X.K (.ref C) (.type "type") "__init__" = some (.val (.builtin "ValueError.__init__")))
    (ha : PA X (e :: es) ta) (hg : Gl X x := by rfl) (hdb : (x == ("__debug__" : Str)) = false := by decide)
    (hc : eval (.Call (.Attribute (.Name x p1) "__init__" p2) (e :: es) [] pos) X.env = (do
      let self ← eval (.Name x p1) X.env
      standAt p2.atName
      let (g, fi) ← holding [self] (getMethod self "__init__" pl)
      callWith pos g fi (backTo pos (starEach (e :: es) X.env)) (backToKw pos (keywordEach [] X.env))) := by rfl)
    (he : starEach (e :: es) X.env = (false, eval e X.env) :: starEach es X.env := by rfl) (hpl : (backTo pos (starEach es X.env)).any (·.1) = false := by rfl) :
    PE X (.Call (.Attribute (.Name x p1) "__init__" p2) (e :: es) [] pos) (tVeI X.K ta) := by
  refine ⟨fun ps s0 τ G R J h => ?_⟩
  refine PySem.W.methodCall_KW (ld_glob J hg hm ?_ hdb) hc
  refine PySem.W.method_cls J.kIn h2 (PySem.W.cls_value J.kIn h1 h3 rfl ?_)
  refine PyProof.Rows.callWith_method1 (thn (ha.run pos ps _ τ G _ (J.tok _) h) fun us s1 hh => ?_) he hpl
  obtain ⟨vs, G1, J1, r1, a, C1, ws, ev, hl, T1, ea, q⟩ := hh
  subst ev
  cases r1 with
  | @cons _ u0 _ ur ra rr =>
    cases (show u0 = Value.ref a from ra)
    have hlen : ur.length ≤ sizeLine := by
      rw [← Paired.length rr, sizeLine_eq]; omega
    exact oinit_ok T1 J1 ea hlen fun s2 J2 => ⟨.non, G1, J2, rfl, q⟩
def spInit (K : Fg) (C : Addr) (f : Str) : Sp := fun vs H Q _ => ∃ (a : Addr) (v : V), vs = [.ref a, v] ∧ H a = some (exo a C none) ∧ ∀ dx, H dx = none → dx ≠ a → Q .non (upd (upd H dx (exd dx [(f, v)])) a (exo a C (some dx)))
def OkI (P : Program) (w : World) (K : Fg) (mg : Str → Option Value) (base : Heap) (c f : Str) : Prop :=
  ∃ fd par, FnOk P w K mg base CX0 1 (He.fAd K (c, some "__init__")) fd ["self", par] (spInit K (He.ga K c) f) ∧ Binds K fd ["self", par] []
section
variable {P : Program} {w : World} {K : Fg} {mg : Str → Option Value} {base : Heap} {l : ECls}
theorem init_ok {c f par qual m : Str} {st : Stmt} (XF : XFs K l) (hl : (c, some f) ∈ l) (F : FnD K "__init__" qual st [] (c, some "__init__")) (S : FnScope ["self", par] ["self", par] (defScope st))
    (hder : ∀ (cdv : Value) (A : Around) (outer : List Env) (s : Shared) (H : Hp) (E : XK), PSs (cxOf CX0 P w K mg base ["self", par] qual (defScope st) (He.fAd K (c, some "__init__")) cdv A outer s H E) (defBody st) (tSeq (tDrop (tVeI K (tCons (tVar 0) (tCons (tC (.str m)) tNil)))) (tOst K f (tVar 0) (tVar 1))))
    (hbi : ∀ (kV doc pm : Value) (an : Option Addr) (cdv ct : Value) (us : List Value), us.length = (["self", par] : List Str).length → bindArgs (PySem.W.fnOf "__init__" qual (defArgs st) (defBody st) (defScope st) .none kV doc pm an cdv ct) ⟨us, []⟩ = pure ((["self", par] : List Str).zip us)) :
    OkI P w K mg base c f := by
  obtain ⟨fd, F⟩ := F
  obtain ⟨O1, O2, O3, O4⟩ := XF.fld hl
  refine ⟨fd, par, F.ok (CX := CX0) (k := 0) (sp := spInit K (He.ga K c) f) S (fun vs H Q E h => ?_) (fun cdv A outer s H vs Q E hr h => ⟨_, hder cdv A outer s H E, ?_⟩), F.bindsN hbi⟩
  · obtain ⟨a, v, rfl, _⟩ := h; rfl
  · obtain ⟨a, v, rfl, ha, q⟩ := h
    refine ⟨.ref a, rfl, a, He.ga K c, [.str m], rfl, by simp, O1, ha, v, rfl, .ref a, rfl, a, He.ga K c, rfl, O1, O4, .inl ⟨ha, fun dx n ne => q dx n ne⟩⟩
end
/-! ### raise C(e), C with such an __init__ -/
/-- such an exception, made; its context is None -/
theorem pmk_oexN {X : Cx} {e : Expr} {es : List Expr} {ta : TA} {p pos : Pos} {CX : CXT} {x : Str} {C fI : Addr} {k : Nat} {fd : FuncData} {ps : List Str} {sp : Sp} (O : OexC X.K C) (iC : PySem.W.findIn X.K (.ref C) "__init__" = some (some (.ref fI))) (tI : PySem.W.typeIn X.K (.ref fI) = some (.type "function"))
    (F1 : FnOk X.prog X.w X.K X.mg X.base CX k fI fd ps sp) (hr : Room (k + 1) X.A) (hb : Binds X.K fd ps []) (hx : Passes CX X (fun _ _ _ => False)) (hg : Gl X x) (hm : X.mg x = some (.ref C)) (ha : PA X (e :: es) ta)
    (hdb : (x == ("__debug__" : Str)) = false := by decide) (he : starEach (e :: es) X.env = (false, eval e X.env) :: starEach es X.env := by rfl) (hpl : (backTo pos (starEach es X.env)).any (·.1) = false := by rfl) :
    L2N.PMk X (.Call (.Name x p) (e :: es) [] pos) (tMkO C sp [] ta) := by
  intro qs s0 τ G R J h
  obtain ⟨nm, q, N, bs, bm, sn, sub, ab, col, dd, k0, k1, k2, k3, k5, hC, hbm⟩   := O.cls
  refine wpAny_Call_Name_kw (ld_glob J hg hm ?_ hdb)
  refine PySem.W.callWith_K (h₀ := X.base) J.ok.mod.kin O.kC (thn (ha.run pos qs s0 τ G _ J h) fun us s1 hh => ?_) he hpl
  obtain ⟨vs, H1, J1, r1, hz, q1⟩ := hh
  refine ⟨J1.kIn, ?_⟩
  show wpAny _ _ (call (.ref C) us) _ _ _
  obtain ⟨hp, g, dr, tk, os⟩ := s1
  have up : hp.objs.size ≤ hp.objs.size + 1 := Nat.le_succ _
  have hq := q1 (hp.objs.size + 1) (J1.hok.fresh up)
  rw [List.append_nil] at hq
  have kk : ∀ b o, hp.get? b = some o → ((hp.push (PySem.W.kdv_tup us)).push (PySem.HandSPX.excO C hp.objs.size)).get? b = some o := fun b o e => Heap.get?_push_of_some _ (Heap.get?_push_of_some _ e)
  have I2 : Inv X qs τ (upd H1 (hp.objs.size + 1) (exo (hp.objs.size + 1) C none)) ⟨(hp.push (PySem.W.kdv_tup us)).push (PySem.HandSPX.excO C hp.objs.size), g, dr, tk, os⟩ :=
    J1.laid (t' := tk) (a := hp.objs.size + 1) (o := exo (hp.objs.size + 1) C none) (h' := (hp.push (PySem.W.kdv_tup us)).push (PySem.HandSPX.excO C hp.objs.size)) kk up (exo_ok (by heap_get))
  have r2 : Vals (V.ref (hp.objs.size + 1) :: vs) (Value.ref (hp.objs.size + 1) :: us) := .cons rfl r1
  have hl : (Value.ref (hp.objs.size + 1) :: us).length = ps.length := by
    have e := r2.length
    rw [F1.len _ _ _ _ hq] at e
    exact e.symm
  have hb2 := hb _ (Value.ref (hp.objs.size + 1) :: us) I2.kIn (by rw [List.append_nil]; exact hl)
  rw [List.append_nil] at hb2
  have hus : us.length ≤ sizeLine := by rw [← Paired.length r1, sizeLine_eq]; omega
  refine wpAny_call (PySem.HandSPX.call_own F.excBase_ValueError (fun Y => PySem.HandSPX.refsVE_contains Y bm hbm) (J1.kIn _ _ hC) (PySem.W.looks_findIn J1.kIn iC) (fun self => PySem.W.bind_fn J1.kIn self tI) hus
    (codeAny_mono (F1.run _ X.stack _ _ ⟨Value.ref (hp.objs.size + 1) :: us, []⟩ (Value.ref (hp.objs.size + 1) :: us) _ _ (fun _ _ _ => False) (hr.make C us []) (I2.env0.make C us []) hb2 r2 hq) fun r s' hq' => ?_))
  cases r with
  | error er => exact hx qs τ _ _ er s' I2 hq'
  | ok fl =>
    cases fl with
    | ret u =>
      obtain ⟨v, H2, os2, bare2, un2, hok2, rv, ev, d, fs, ea, ed, hd1, q2⟩ := hq'
      subst ev
      obtain ⟨h2, g2, d2, t2, os'⟩ := s'
      obtain ⟨t0, Gh, J2, kG, ge, hoe, na⟩ := mk_end0 (d2 := d2) (t2 := t2) J1 up kk un2 hok2 os2 bare2 ea ed hd1
      refine ⟨rv, ?_⟩
      refine ⟨hp.objs.size + 1, _, _, ⟨Gh, g2, d2, t2, os'⟩, _, .ref C, some d, rfl, J2, kG, ge, hoe, ⟨rfl, rfl, fun w e => ?_⟩, rfl, rfl, na, rfl, bare2, raises_own O.exC O.tyC, q2⟩
      cases e; rfl
    | next => exact False.elim hq'
    | brk => exact False.elim hq'
    | cont => exact False.elim hq'
theorem spInit_end {H : Hp} {a C dx : Addr} {f : Str} {v : V} (ha : H a = none) (hd : dx ≠ a) (hx : H dx = none) :
    upd (del (upd (upd (upd H a (exo a C none)) dx (exd dx [(f, v)])) a (exo a C (some dx))) a) dx (.xd [(f, v)]) = upd H dx (.xd [(f, v)]) := by
  funext b
  by_cases h1 : b = dx
  · subst h1; rw [upd_same, upd_same]
  · rw [upd_ne h1, upd_ne h1]
    by_cases h2 : b = a
    · subst h2; rw [del_same, ha]
    · rw [del_ne h2, upd_ne h2, upd_ne h1, upd_ne h2]
section
variable {K : Fg}
def bsRaiseF (c f : Str) (e : BE K) : BS K where
  t := fun V _ σ H => tMkO (He.ga K c) (spInit K (He.ga K c) f) [] (tCons (e.t V) tNil) σ H fun cls d H' => V cls d σ H'
  w := fun ρ ω k => e.w ρ ω (fun d ω1 => k.xc ⟨c, some (f, d)⟩ ρ ω1) fun x ω1 => k.xc x ρ ω1
  ok := fun V ρ z σ D' k h ok r hk => by
    refine e.ok V ρ z σ _ _ _ h ok r (fun v z1 d t1 r1 h1 => ?_) (hk.qx r)
    refine ⟨by simp, fun a ha => ⟨a, v, rfl, upd_same, fun dx hdx hne => ⟨rfl, dx, [(f, v)], upd_same, ?_, ?_, ?_⟩⟩⟩
    · rw [upd_ne hne, upd_same]
    · rw [upd_ne hne] at hdx; exact hdx
    · rw [upd_ne hne] at hdx
      rw [spInit_end ha hne hdx]
      have t2 := t1.ok.add (o := .xd [(f, v)]) hdx
      have t3 := t1.trans t2
      refine hk.xc ⟨c, some (f, d)⟩ _ _ σ ρ _ t3 (r.mono t3.ex) ⟨rfl, dx, v, rfl, upd_same, r1.mono t2.ex⟩ h1
theorem x_raiseF {c f : Str} {e : BE K} {ρ : En} {ω : Om} {k : KD} : (bsRaiseF c f e).w ρ ω k = e.w ρ ω (fun d ω1 => k.xc ⟨c, some (f, d)⟩ ρ ω1) fun x ω1 => k.xc x ρ ω1 := rfl
end
section
variable {X : Cx} {W : WX} {n : Bool} {l : ECls} {e : Expr} {A : BE X.K}
theorem S_raiseF {c f : Str} {p pos pos' : Pos} (F : XFs X.K l) (OI : OkI X.prog X.w X.K X.mg X.base c f) (hr : Room 2 X.A) (tk : TakesK n X W) (gC : X.mg c = some (.ref (He.ga X.K c))) (ha : PE X e (A.t W)) (hl : (c, some f) ∈ l := by decide) (hc : X.calm = true := by rfl) (hg : Gl X c := by rfl)
    (hdb : (c == ("__debug__" : Str)) = false := by decide) (he : starEach [e] X.env = (false, eval e X.env) :: starEach [] X.env := by rfl) : PS X (.Raise (some (.Call (.Name c p) [e] [] pos)) none pos') ((bsRaiseF c f A).t W) := by
  obtain ⟨O1, O2, O3, O4⟩ := F.fld hl
  obtain ⟨fd, par, F1, F2⟩ := OI
  exact L2N.ps_raise hc (takesN tk) (pmk_oexN O1 O2 O3 F1 hr F2 pass0 hg gC (pa_cons ha pa_nil he) hdb he rfl)
end
end T

/-! try: what is caught is known to the heap while its suite runs, and behind it. -/
namespace T
open PySem PyProof.Rows L2
/-- an exception at a, as its suite finds it -/
def exT (a : Addr) (cls : Value) (d : Option Addr) (n : Bool) : HO := .ext fun h => ∃ (oe : Obj) (vs : Array Value), h.get? a = some oe ∧ oe.cls = cls ∧ oe.dict = d ∧ oe.data = .fields vs ∧ (n = true → vs[2]? = some .none)
abbrev ZK (n : Bool) (cls : Value) (d : Option Addr) : Obj → Prop := match n with
  | true => L2N.Zn cls d
  | false => L2.Zc cls d
section
variable {X : Cx} {n : Bool} {pins : List (Addr × Obj)} {σ : L2.St} {H : Hp} {s : Shared}
/-- it is told to the heap -/
theorem inv_exT {B : Heap} {sI : Shared} {a : Addr} {cls : Value} {d : Option Addr} {oe : Obj} {vs : Array Value} (J : Inv X pins σ H sI) (hex : X.ex = []) (nb : ∀ b o, sI.heap.get? b = some o → b ∉ frs X.stack → B.get? b = some o) (ba : B.get? a = none) (na : H a = none)
    (nf : a ∉ frs X.stack) (nL : a ≠ X.env.locals) (J2 : Inv X pins σ H s) (he : s.heap.get? a = some oe) (hz : ZK n cls d oe) (hd : oe.data = .fields vs) : Inv X pins σ (upd H a (exT a cls d n)) s := by
  have no : sI.heap.get? a = none := by
    cases e : sI.heap.get? a with
    | none => rfl
    | some o => rw [nb a o e nf] at ba; cases ba
  have ne_some : ∀ {b : Addr} {o : HO}, H b = some o → b ≠ a := fun {b o} e w => by rw [w, na] at e; cases e
  refine ⟨J2.ok, J2.os, J2.bare, ⟨J2.base.keep, J2.base.slot, fun b o e n' hx => ?_, J2.base.there, fun b xs e => ?_, fun b o u e => ?_, fun b ps e => ?_⟩, J2.loc, J2.cell, ?_, fun x c e => ?_, fun p hp => ?_, fun b o e => ?_, J2.len⟩
  · have nba : b ≠ a := fun w => by
      obtain ⟨o', e'⟩ := J.base.there b o e hx
      rw [w, no] at e'; cases e'
    rw [upd_ne nba]; exact J2.base.free b o e n' hx
  · have q := J2.base.tups b xs e
    rw [upd_ne (ne_some q)]; exact q
  · have q := J2.base.frzs b o u e
    rw [upd_ne (ne_some q)]; exact q
  · obtain ⟨m, q⟩ := J2.base.tbls b ps e
    exact ⟨m, by rw [upd_ne (ne_some q)]; exact q⟩
  · rw [upd_ne (Ne.symm nL)]; exact J2.free
  · have nca : c ≠ a := fun w => by
      obtain ⟨v, ob, z1, z2⟩ := J2.cell x c e
      rw [w, he] at z1
      cases z1
      rw [hd] at z2; cases z2
    rw [upd_ne nca]; exact J2.freeC x c e
  · obtain ⟨q1, q2, q3, q4, q5⟩ := J2.pin p hp
    have npa : p.1 ≠ a := fun w => by
      have := (J.pin p hp).1
      rw [w, no] at this; cases this
    exact ⟨q1, by rw [upd_ne npa]; exact q2, q3, q4, q5⟩
  · by_cases hb : b = a
    · subst hb
      rw [upd_same] at e
      cases e
      refine ⟨⟨oe, vs, he, ?_⟩, ⟨oe, he⟩, fun h1 h2 ⟨o1, v1, z1, z2⟩ k => ⟨o1, v1, k _ z1, z2⟩⟩
      cases n with
      | true => exact ⟨hz.1, hz.2.1, hd, fun _ => hz.2.2 vs hd⟩
      | false => exact ⟨hz.1, hz.2, hd, fun w => nomatch w⟩
    · rw [upd_ne hb] at e
      refine (J2.hok b o e).stay (fun _ _ _ q => q) (fun c q => ?_) fun c xs q => ?_
      · rw [upd_ne (ne_some q)]; exact q
      · rw [upd_ne (ne_some q)]; exact q
end
/-- the context of a suite -/
abbrev Cx.sui (X : Cx) (a : Addr) (pn : List (Addr × Obj)) : Cx := { X with A := X.A.mark (some (.ref a)), calm := false, pn := pn, xe := fun _ _ => False }
theorem sui_in {X : Cx} {pins : List (Addr × Obj)} {σ : L2.St} {H : Hp} {s : Shared} {a : Addr} (J : Inv X pins σ H s) : Inv (Cx.sui X a (X.pn ++ pins)) [] σ H s :=
  ⟨J.ok.suite _ _, J.os, J.bare, J.base, J.loc, J.cell, J.free, J.freeC, fun p hp => J.pin p (by rw [List.append_nil] at hp; exact hp), J.hok, J.len⟩
theorem sui_out {X : Cx} {pins : List (Addr × Obj)} {σ : L2.St} {H : Hp} {s : Shared} {a : Addr} (ok : X.Ok) (J : Inv (Cx.sui X a (X.pn ++ pins)) [] σ H s) : Inv X pins σ H s :=
  ⟨ok, J.os, J.bare, J.base, J.loc, J.cell, J.free, J.freeC, fun p hp => J.pin p (List.mem_append_left _ hp), J.hok, J.len⟩
/-- a suite: its class, the slot of its name, its reading -/
abbrev HdT := Value × Option Nat × (Addr → Value → Option Addr → TS)
def endT (D : Ends) (i : Option Nat) : Ends := match i with
  | none => D
  | some i => { nx := fun σ H => D.nx (σ.set i none) H, rt := D.rt, bk := fun σ H => D.bk (σ.set i none) H, ct := fun σ H => D.ct (σ.set i none) H }
def putT (σ : L2.St) (i : Option Nat) (a : Addr) : L2.St := match i with
  | none => σ
  | some i => σ.set i (some (.ref a))
def wTry (K : Fg) (n : Bool) (Wout : WX) (D : Ends) : List HdT → WX
  | [] => Wout
  | (c, i, ts) :: r => fun cls d σ H => ∃ b, PySem.W.exmOne K cls c = some b ∧ (b = true → ∀ a, H a = none → ts a cls d (endT D i) (putT σ i a) (upd H a (exT a cls d n))) ∧ (b = false → wTry K n Wout D r cls d σ H)
inductive HdsT (X : Cx) : List ExceptHandler → List HdT → Prop
  | nil : HdsT X [] []
  | bare {x : Str} {c : Value} {ts : Addr → Value → Option Addr → TS} {b0 : Stmt} {su : List Stmt} {np p' : Pos} {hds : List ExceptHandler} {l : List HdT} (hc : Names X x c)
      (hsu : ∀ (a : Addr) (pn : List (Addr × Obj)) (cls : Value) (d : Option Addr), PSs (Cx.sui X a pn) (b0 :: su) (ts a cls d)) (r : HdsT X hds l) : HdsT X (.ExceptHandler (some (.Name x np)) none (b0 :: su) p' :: hds) ((c, none, ts) :: l)
  | as {x y : Str} {i : Nat} {c : Value} {ts : Addr → Value → Option Addr → TS} {b0 : Stmt} {su : List Stmt} {np p' : Pos} {hds : List ExceptHandler} {l : List HdT} (hc : Names X x c) (hi : X.N[i]? = some y) (hy : X.env.kindOf y = some .local)
      (hsu : ∀ (a : Addr) (pn : List (Addr × Obj)) (cls : Value) (d : Option Addr), PSs (Cx.sui X a pn) (b0 :: su) (ts a cls d)) (r : HdsT X hds l) : HdsT X (.ExceptHandler (some (.Name x np)) (some y) (b0 :: su) p' :: hds) ((c, some i, ts) :: l)
section
variable {X : Cx} {n : Bool} {Wout : WX} {D' : Ends} {hds : List ExceptHandler} {l : List HdT} {a : Addr} {B : Heap} {sI s1 : Shared} {pins : List (Addr × Obj)} {σ : L2.St} {H : Hp} {cls : Value} {d : Option Addr}
theorem throwK (tk : TakesK n X Wout) (J : Inv X pins σ H sI) (nb : ∀ b o, sI.heap.get? b = some o → b ∉ frs X.stack → B.get? b = some o) (up : sI.heap.UpToSlots s1.heap) (sky : Sky B X.stack a (ZK n cls d) X.env.locals s1.heap) (na : H a = none) (os : s1.os = sI.os) (ag : AllBare s1.gens) (w : Wout cls d σ H) : X.xe (.ref a) s1 := by
  cases n with
  | true => exact tk _ _ ⟨a, B, sI, pins, σ, H, cls, d, rfl, J, nb, up, sky, na, os, ag, w⟩
  | false => exact tk _ _ ⟨a, B, sI, pins, σ, H, cls, d, rfl, J, nb, up, sky, na, os, ag, w⟩
theorem zk_cls {o : Obj} (h : ZK n cls d o) : o.cls = cls := by
  cases n with
  | true => exact h.1
  | false => exact h.1
/-- the clauses are asked -/
theorem catch_go (hs : X.stack = X.env :: X.outer) (hf : X.env.frame = some X.env.locals) (hex : X.ex = []) (hN : X.N.Nodup) (tk : TakesK n X Wout) (hh : HdsT X hds l) (J : Inv X pins σ H sI)
    (nb : ∀ b o, sI.heap.get? b = some o → b ∉ frs X.stack → B.get? b = some o) (up : sI.heap.UpToSlots s1.heap) (na : H a = none) (os : s1.os = sI.os) (ag : AllBare s1.gens)
    (fl : PySem.HandSPX.FlyingZ B (X.env :: X.outer) a (ZK n cls d) s1.heap) (w : wTry X.K n Wout D' l cls d σ H) :
    wpAny (model X.prog X.w) X.A (handleBy (.ref a) X.env hds) (SP X pins D') X.xe s1 := by
  have ok := J.ok
  have J3 : Inv X pins σ H s1 := J.landed nb fl.1 up os ag
  obtain ⟨oe, vs, he, hz, hd⟩ := fl.there
  have nfr : a ∉ frs (X.env :: X.outer) := fun hm => by
    obtain ⟨_, o2, e2, hnf⟩ := fl.2.2.1.mem hm
    rw [he] at e2; cases e2
    exact hnf _ hd
  have nfs : a ∉ frs X.stack := by rw [hs]; exact nfr
  have nL : a ≠ X.env.locals := fun z => nfr (List.mem_filterMap.mpr ⟨X.env, List.mem_cons_self, by rw [hf, z]⟩)
  have track : ∀ {h4 : Heap}, PySem.HandSPX.FlyingZ B (X.env :: X.outer) a (ZK n cls d) h4 → s1.heap.UpToSlots h4 → Inv X pins σ (upd H a (exT a cls d n)) { s1 with heap := h4 } := fun {h4} fl4 up4 => by
    obtain ⟨oe4, vs4, he4, hz4, hd4⟩ := fl4.there
    exact inv_exT J hex nb fl.2.1 na nfs nL (J.landed (s' := { s1 with heap := h4 }) nb fl4.1 (up.trans up4) os ag) he4 hz4 hd4
  have LT : PySem.W.Looks (model X.prog X.w) s1.heap (typeOf (.ref a)) cls := fun A Q E s k q => wpAny_typeOf_ref (k _ _ he) (by rw [zk_cls hz]; exact q)
  have test : ∀ {x : Str} {c : Value} {np : Pos} {Q E : Value → Shared → Prop}, Names X x c → Q c s1 → wpAny (model X.prog X.w) (X.A.mark (some (.ref a))) (eval (.Name x np) X.env) Q E s1 := fun {x c np Q E} nm q => by
    obtain ⟨hg, hdbg, hm⟩ := nm
    have S3 := sui_in (a := a) J3
    rcases hm with hm | ⟨hm, hv, hnn⟩
    · exact ld_glob (X := Cx.sui X a (X.pn ++ pins)) S3 hg hm q hdbg
    · exact ld_blt (X := Cx.sui X a (X.pn ++ pins)) S3 hg hm hv q hnn hdbg
  induction hh with
  | nil =>
    refine wpAny_handleBy_nil ?_
    obtain ⟨_, _, _, oe5, vs5, T5, _, _, he5, _, hd5, h15, _⟩ := id fl
    unfold PySem.passOn
    refine wpAny_bind (wpAny_field he5 hd5 h15 ?_)
    rw [if_neg (show ¬ ((Value.ref T5 == Value.none) = true) from by simp)]
    have fin : wpAny (model X.prog X.w) X.A (setFlight (.ref a) X.env.frame) (fun _ s4 => wpAny (model X.prog X.w) X.A (throw (.ref a) : Sem Flow) (SP X pins D') X.xe s4) X.xe s1 := by
      rw [hf]
      exact PySem.HandSPX.setFlight_upZ fl fun h4 hh4 up4 => wpAny_throw (throwK (s1 := { s1 with heap := h4 }) tk J nb (up.trans up4) (.inr (.inr (by rw [hs]; exact hh4))) na os ag w)
    first
      | exact wpAny_bind (wpAny_pure (wpAny_bind fin))
      | exact wpAny_bind fin
  | @bare x c ts b0 su np p' hds2 l2 hc hsu r ih =>
    obtain ⟨b, hb1, hyes, hno⟩ := w
    refine wpAny_handleBy_cons (codeAny_handlers_test (test hc ((PySem.W.exm_one (M := model X.prog X.w) J3.kIn LT hb1).here ?_))) (fun q => nomatch q)
    cases b with
    | false => exact ih (hno rfl)
    | true =>
      refine codeAny_handlers_suite (PySem.HandSPX.lands_againZ fl fun h4 fl4 up4 => ?_)
      have S4 := sui_in (a := a) (track fl4 up4)
      refine wpAny_mono ((hsu a (X.pn ++ pins) cls d).run [] _ _ _ _ S4 (hyes rfl a na)) (fun f s6 hsp => ?_) (fun _ _ z => False.elim z)
      cases f with
      | next => obtain ⟨σ6, H6, S6, q6⟩ := hsp; exact ⟨_, _, sui_out ok S6, q6⟩
      | brk => obtain ⟨σ6, H6, S6, q6⟩ := hsp; exact ⟨_, _, sui_out ok S6, q6⟩
      | cont => obtain ⟨σ6, H6, S6, q6⟩ := hsp; exact ⟨_, _, sui_out ok S6, q6⟩
      | ret u => obtain ⟨v6, σ6, H6, S6, r6, q6⟩ := hsp; exact ⟨_, _, _, sui_out ok S6, r6, q6⟩
  | @as x y i c ts b0 su np p' hds2 l2 hc hi hy hsu r ih =>
    obtain ⟨b, hb1, hyes, hno⟩ := w
    refine wpAny_handleBy_cons (codeAny_handlers_test (test hc ((PySem.W.exm_one (M := model X.prog X.w) J3.kIn LT hb1).here ?_))) (fun q => nomatch q)
    cases b with
    | false => exact ih (hno rfl)
    | true =>
      refine codeAny_handlers_suite_as (PySem.HandSPX.lands_againZ fl fun h4 fl4 up4 => ?_)
      have S4 := sui_in (a := a) (track fl4 up4)
      refine store_ok (X := Cx.sui X a (X.pn ++ pins)) (v := .ref a) S4 hN hi (.inl hy) rfl (fun s5 S5 => ?_) (.inr hy)
      refine wpAny_mono ((hsu a (X.pn ++ pins) cls d).run [] s5 _ _ _ S5 (hyes rfl a na)) (fun f s6 hsp => ?_) (fun _ _ z => False.elim z)
      cases f with
      | next => obtain ⟨σ6, H6, S6, q6⟩ := hsp; exact gone_ok (sui_out ok S6) hN hi hy fun s7 J7 => ⟨_, _, J7, q6⟩
      | brk => obtain ⟨σ6, H6, S6, q6⟩ := hsp; exact gone_ok (sui_out ok S6) hN hi hy fun s7 J7 => ⟨_, _, J7, q6⟩
      | cont => obtain ⟨σ6, H6, S6, q6⟩ := hsp; exact gone_ok (sui_out ok S6) hN hi hy fun s7 J7 => ⟨_, _, J7, q6⟩
      | ret u => obtain ⟨v6, σ6, H6, S6, r6, q6⟩ := hsp; exact gone_ok (sui_out ok S6) hN hi hy fun s7 J7 => ⟨_, _, _, J7, r6, q6⟩
/-- try: .. except X (as x): .. -/
theorem ps_tryT {body : List Stmt} {h0 : ExceptHandler} {tb : WX → TS} {pos : Pos} {wf : Ends → WX} (hwf : ∀ D cls d σ H, wf D cls d σ H → wTry X.K n Wout D l cls d σ H) (hs : X.stack = X.env :: X.outer) (hf : X.env.frame = some X.env.locals) (hex : X.ex = []) (hN : X.N.Nodup) (tk : TakesK n X Wout)
    (hb : ∀ (V : WX) (pn : List (Addr × Obj)) (xe : Value → Shared → Prop), TakesK n (X.tr pn xe) V → PassesOwn (model X.prog X.w) X.A X.env xe → PSs (X.tr pn xe) body (tb V)) (hh : HdsT X (h0 :: hds) l) :
    PS X (.Try body (h0 :: hds) [] [] pos) (fun D σ H => tb (wf D) D σ H) := by
  refine ⟨fun ps s0 τ G R J h => ?_⟩
  have ok := J.ok
  have hfr : X.A.frames = some (X.env :: X.outer) := by rw [ok.frames, hs]
  refine wpAny_Try_except (wpAny_mono ((hb (wf R) (X.pn ++ ps) (fun e s2 => wpAny (model X.prog X.w) X.A (noteFrame e X.env) (fun _ s3 => wpAny (model X.prog X.w) X.A (setFlight e none) (fun _ s4 =>
    wpAny (model X.prog X.w) X.A (handleBy e X.env (h0 :: hds)) (SP X ps R) X.xe s4) X.xe s3) X.xe s2) ?_ PassesOwn.looking).run [] s0 τ G R (J.toTry _) h) (fun f s2 hsp => ?_) (fun e s2 he => he))
  · cases n with
    | true =>
      rintro u s2 ⟨a, B, sI, pins', σ', H', cls, d, rfl, J', nb, up, sky, na, os, ag, w⟩
      refine L2N.Sky.land L2N.Zn.steady hfr hf (by rw [← hs]; exact sky) fun h3 fl3 up3 => ?_
      exact catch_go (n := true) (s1 := { s2 with heap := h3 }) hs hf hex hN tk hh (J'.ofTry ok) nb (up.trans up3) na os ag fl3 (hwf _ _ _ _ _ w)
    | false =>
      rintro u s2 ⟨a, B, sI, pins', σ', H', cls, d, rfl, J', nb, up, sky, na, os, ag, w⟩
      refine L2.Sky.land L2.Zc.steady hfr hf (by rw [← hs]; exact sky) fun h3 fl3 up3 => ?_
      exact catch_go (n := false) (s1 := { s2 with heap := h3 }) hs hf hex hN tk hh (J'.ofTry ok) nb (up.trans up3) na os ag fl3 (hwf _ _ _ _ _ w)
  · cases f with
    | next => obtain ⟨σ', H', J', q⟩ := hsp; exact wpAny_execs_nil ⟨σ', H', J'.ofTry ok, q⟩
    | brk => obtain ⟨σ', H', J', q⟩ := hsp; exact ⟨σ', H', J'.ofTry ok, q⟩
    | cont => obtain ⟨σ', H', J', q⟩ := hsp; exact ⟨σ', H', J'.ofTry ok, q⟩
    | ret u => obtain ⟨v, σ', H', J', r, q⟩ := hsp; exact ⟨v, σ', H', J'.ofTry ok, r, q⟩
end
end T

/-! What was caught, as data; isinstance and fields of it; try as a bundle. -/
namespace T
open PySem PyProof.Rows L2
/-- the second part of an isinstance of an exception: a class, several, ValueError -/
inductive QC where
  | one (c : Str) | many (cs : List Str) | ve
def ansQ (c : Str) : QC → Bool
  | .one d => subX c d
  | .many ds => ds.any (subX c)
  | .ve => true
def inQ (l : ECls) : QC → Bool
  | .one d => l.any (·.1 == d)
  | .many ds => ds.all fun d => l.any (·.1 == d)
  | .ve => true
abbrev inL (l : ECls) (c : Str) : Bool := l.any (·.1 == c)
theorem inL_mem {l : ECls} {c : Str} (h : inL l c = true) : ∃ f, (c, f) ∈ l := by
  obtain ⟨⟨d, f⟩, h1, h2⟩ := List.any_eq_true.mp h
  exact ⟨f, by rw [← beq_iff_eq.mp h2]; exact h1⟩
/-- the value of the second part -/
def IsQ (K : Fg) (H : Hp) : QC → V → Prop
  | .one d, y => y = .ref (He.ga K d)
  | .many ds, y => ∃ t, y = .ref t ∧ H t = some (.tup (ds.map fun d => .ref (He.ga K d)))
  | .ve, y => y = .ty "ValueError"
def rIsX (K : Fg) (l : ECls) (q : QC) : List V → Hp → VK → Prop := fun xs H Q => ∃ (a : Addr) (c : Str) (dd : Option Addr) (n : Bool) (y : V), xs = [.ref a, y] ∧ inL l c = true ∧ H a = some (ExT K a c dd n) ∧ (∀ d, dd = some d → ∃ fs, H d = some (.xd fs)) ∧ IsQ K H q y ∧ Q (.bl (ansQ c q)) H
theorem exT_at {P : Program} {w : World} {K : Fg} {H : Hp} {h : Heap} {a : Addr} {c : Str} {dd : Option Addr} {n : Bool} (k : HOk P w H h) (e : H a = some (ExT K a c dd n)) (hd : ∀ d, dd = some d → ∃ fs, H d = some (.xd fs)) :
    ∃ ox od, PySem.W.InstAt h a ox (He.ga K c) od ∧ match dd with | some d => ∃ o, od = some o ∧ h.get? d = some o | none => od = none := by
  have x : ObjOk P w H h a (.ext fun h => ∃ (oe : Obj) (vs : Array Value), h.get? a = some oe ∧ oe.cls = .ref (He.ga K c) ∧ oe.dict = dd ∧ oe.data = .fields vs ∧ (n = true → vs[2]? = some .none)) := k a _ e
  obtain ⟨⟨oe, vs, h1, h2, h3, h4, _⟩, _⟩ := x
  cases dd with
  | none => exact ⟨oe, none, ⟨h1, h2, by unfold PySem.W.notCls; rw [h4] <;> rfl, by rw [h3]; trivial⟩, rfl⟩
  | some d =>
    obtain ⟨fs, hf⟩ := hd d rfl
    obtain ⟨o, ho⟩ := objOk_get (k d _ hf)
    exact ⟨oe, some o, ⟨h1, h2, by unfold PySem.W.notCls; rw [h4] <;> rfl, by rw [h3]; exact ho⟩, o, rfl, ho⟩
theorem kitAny_of {K : Fg} {l : ECls} (F : XFs K l) {c : Str} (hc : inL l c = true) : ∀ {ds : List Str}, (ds.all fun d => inL l d) = true → PySem.W.kitAny K (.ref (He.ga K c)) (ds.map fun d => .ref (He.ga K d)) = some (ds.any (subX c))
  | [], _ => rfl
  | d :: ds, h => by
    rw [List.all_cons, Bool.and_eq_true] at h
    obtain ⟨f, hf⟩ := inL_mem hc
    obtain ⟨g, hg⟩ := inL_mem h.1
    have e := (F.pair hf hg).2
    rw [List.map_cons, List.any_cons]
    unfold PySem.W.kitAny
    rw [e]
    cases q : subX c d with
    | true => rfl
    | false => exact kitAny_of F hc h.2
theorem call_isX {X : Cx} {l : ECls} {q : QC} (F : XFs X.K l) (hq : inQ l q = true) : CallR X (.builtin "isinstance") (rIsX X.K l q) := by
  intro pins s σ H xs us Q I r h
  obtain ⟨a, c, dd, n, y, rfl, hc, ha, hd, hy, q1⟩ := h
  cases r with
  | cons rx rr =>
    cases rr with
    | cons rt rr =>
      cases rr
      cases rx
      obtain ⟨f, hf⟩ := inL_mem hc
      have C := F.c1 hf
      obtain ⟨ox, od, J, _⟩ := exT_at I.hok ha hd
      have hcl : (PySem.W.clsIn X.K (He.ga X.K c)).isSome = true := by
        have := C.hd
        unfold PySem.W.hasDictIn at this
        cases e : PySem.W.clsIn X.K (He.ga X.K c) with
        | none => rw [e] at this; cases this
        | some cd => rfl
      have Kx := PySem.W.kitx_exc (x := a) (ox := ox) (od := od) hcl C.ga C.gg C.sb C.cl C.cg C.ct C.mo
      have fin : ∀ tk, EP X pins σ Q (.bool (ansQ c q)) { s with toks := tk } := fun tk => ⟨.bl _, H, I.kept (t' := tk) fun _ _ z => z, rfl, q1⟩
      cases q with
      | one d =>
        subst hy
        cases rt
        obtain ⟨g, hg⟩ := inL_mem (show inL l d = true from hq)
        exact PySem.W.kia_one Kx I.kIn J (F.pair hf hg).2 (fun z => nomatch z) fin
      | ve =>
        subst hy
        cases rt
        exact PySem.W.kia_one Kx I.kIn J C.ve (fun z => nomatch z) fin
      | many ds =>
        obtain ⟨t, rfl, ht⟩ := hy
        cases rt
        obtain ⟨hsz, its, rv, hit⟩ := I.hok t _ ht
        have ei : its = ds.map fun d => .ref (He.ga X.K d) := by
          clear hq q1 fin ht hit hsz
          induction ds generalizing its with
          | nil => cases rv; rfl
          | cons d ds ih =>
            cases rv with
            | @cons _ _ _ us' r1 rv =>
              cases r1
              rw [List.map_cons, ih _ rv]
        subst ei
        obtain ⟨⟨oc, od', oda, osl⟩, h1, h2, n', h3⟩ := hit
        dsimp only at h2 h3
        subst h2 h3
        exact PySem.W.kia_tup Kx I.kIn J h1 (kitAny_of F hc hq) (fun z => nomatch z) fin
/-! ### a field -/
/-- err.f -/
def tXfT (K : Fg) (l : ECls) (f : Str) (te : TE) : TE := fun σ H Q => te σ H fun x H1 => ∃ (a : Addr) (c : Str) (dd : Addr) (n : Bool) (v : V), x = .ref a ∧ (c, some f) ∈ l ∧ H1 a = some (ExT K a c (some dd) n) ∧ H1 dd = some (.xd [(f, v)]) ∧ Q v H1
theorem pe_xfT {X : Cx} {l : ECls} {e : Expr} {te : TE} {pos : Pos} {f : Str} (F : XFs X.K l) (he : PE X e te) (hb : attributeBase e f X.env (eval e X.env) = eval e X.env := by rfl) : PE X (.Attribute e f pos) (tXfT X.K l f te) := by
  refine ⟨fun ps s0 τ G Q J h => ?_⟩
  refine attr_of hb (thn (he.run ps s0 τ G _ J h) fun u s1 hh => ?_)
  obtain ⟨x, H1, I1, rx, a, c, dd, n, v, ex, hc, ea, ed, q⟩ := hh
  subst ex
  cases (show u = Value.ref a from rx)
  have C := F.c1 hc
  obtain ⟨ox, od, A, o, rfl, ho⟩ := exT_at I1.hok ea fun d e => by cases e; exact ⟨_, ed⟩
  have hx : ObjOk X.prog X.w H1 s1.heap dd (.xd [(f, v)]) := I1.hok dd _ ed
  obtain ⟨mA, hns, hr⟩ := hx
  obtain ⟨od2, ho2, hl⟩ := lookIn_ns hns
  rw [ho] at ho2
  cases ho2
  obtain ⟨u, hu, ru⟩ := RelO.some_of (v := v) (o := mA f) (by have := hr f; simpa using this)
  exact PySem.HandSPX.exc_get I1.kIn A C.ga C.gg C.sb (PySem.W.findObj_own C.hd (F.fld hc).2.2.2 rfl (by rw [hl, hu])) (handed_of ru) ⟨v, H1, I1.tok _, ru, q⟩
/-! ### bundles -/
section
variable {K : Fg}
def tQ (K : Fg) : QC → TE
  | .one d => tC (.ref (He.ga K d))
  | .many ds => tTup (ds.foldr (fun d t => tCons (tC (.ref (He.ga K d))) t) tNil)
  | .ve => tC (.ty "ValueError")
theorem tQs_go {K : Fg} {σ : L2.St} {H : Hp} : ∀ (ds : List Str) (P : List V → Hp → Prop), P (ds.map fun d => .ref (He.ga K d)) H → (ds.foldr (fun d t => tCons (tC (.ref (He.ga K d))) t) tNil) σ H P
  | [], _, h => h
  | d :: ds, P, h => tQs_go ds _ h
/-- isinstance(e, ..), e what was caught -/
def bIsX (l : ECls) (q : QC) (hq : (match q with | .many ds => decide (ds.length ≤ 100) | _ => true) = true) (A : BE K) : BE K where
  t := fun V => tCB (rIsX K l q) (tCons (A.t V) (tCons (tQ K q) tNil))
  w := fun ρ ω Φ Ψ => A.w ρ ω (fun x ω1 => match x with
    | .exn _ _ c _ _ _ => inL l c = true ∧ Φ (.bl (ansQ c q)) ω1
    | _ => False) Ψ
  ok := fun V ρ z σ Q Φ Ψ h ok r k qx => by
    refine A.ok V ρ z σ _ _ Ψ h ok r (fun v z1 d t1 r1 h1 => ?_) qx
    split at h1
    · rename_i a dd c f d n
      obtain ⟨hc, h1⟩ := h1
      have fd : ∃ dd', v = .ref a ∧ z1.h a = some (ExT K a c dd' n) ∧ ∀ e, dd' = some e → ∃ fs, z1.h e = some (.xd fs) := by
        cases r1 with
        | exn0 h => exact ⟨none, rfl, t1.ok.fz _ _ h, fun _ e => nomatch e⟩
        | exn1 h h2 r => exact ⟨_, rfl, t1.ok.fz _ _ h, fun e he => by cases he; exact ⟨_, t1.ok.fz _ _ h2⟩⟩
      obtain ⟨dd', rfl, ha, hd⟩ := fd
      cases q with
      | one d' => exact ⟨a, c, dd', n, _, rfl, hc, ha, hd, rfl, k _ z1 _ t1 (.bl _) h1⟩
      | ve => exact ⟨a, c, dd', n, _, rfl, hc, ha, hd, rfl, k _ z1 _ t1 (.bl _) h1⟩
      | many ds =>
        refine tQs_go ds _ ⟨?_, fun p hp => ?_⟩
        · rw [List.length_map, sizeLine_eq]
          have : ds.length ≤ 100 := of_decide_eq_true hq
          omega
        · have t2 := t1.ok.add (o := .tup (ds.map fun d => .ref (He.ga K d))) hp
          have na : a ≠ p := ne_of_none ha hp
          exact ⟨a, c, dd', n, _, rfl, hc, (upd_ne na).trans ha, fun e he => let ⟨fs, hf⟩ := hd e he; ⟨fs, (upd_ne (ne_of_none hf hp)).trans hf⟩, ⟨p, rfl, upd_same⟩, k _ _ _ (t1.trans t2) (.bl _) h1⟩
    · exact h1.elim
/-- e.f -/
def bXf (l : ECls) (f : Str) (A : BE K) : BE K where
  t := fun V => tXfT K l f (A.t V)
  w := fun ρ ω Φ Ψ => A.w ρ ω (fun x ω1 => match x with
    | .exn _ (some _) c g d _ => g = f ∧ (c, some f) ∈ l ∧ Φ d ω1
    | _ => False) Ψ
  ok := fun V ρ z σ Q Φ Ψ h ok r k qx => by
    refine A.ok V ρ z σ _ _ Ψ h ok r (fun v z1 d t1 r1 h1 => ?_) qx
    split at h1
    · rename_i a dd c g d n
      obtain ⟨rfl, hc, h1⟩ := h1
      cases r1 with
      | exn1 h h2 r => exact ⟨a, c, dd, n, _, rfl, hc, t1.ok.fz _ _ h, t1.ok.fz _ _ h2, k _ z1 _ t1 r h1⟩
    · exact h1.elim
theorem x_isX {l : ECls} {q : QC} {hq : (match q with | .many ds => decide (ds.length ≤ 100) | _ => true) = true} {A : BE K} {ρ : En} {ω : Om} {Φ : D → Om → Prop} {Ψ : Exn → Om → Prop} : (bIsX l q hq A).w ρ ω Φ Ψ = A.w ρ ω (fun x ω1 => match x with
    | .exn _ _ c _ _ _ => inL l c = true ∧ Φ (.bl (ansQ c q)) ω1
    | _ => False) Ψ := rfl
theorem x_xf {l : ECls} {f : Str} {A : BE K} {ρ : En} {ω : Om} {Φ : D → Om → Prop} {Ψ : Exn → Om → Prop} : (bXf l f A).w ρ ω Φ Ψ = A.w ρ ω (fun x ω1 => match x with
    | .exn _ (some _) c g d _ => g = f ∧ (c, some f) ∈ l ∧ Φ d ω1
    | _ => False) Ψ := rfl
end
section
variable {X : Cx} {W : WX} {l : ECls} {e : Expr} {A : BE X.K} {pos p p2 p3 : Pos}
/-- a row of classes -/
def PQ (X : Cx) (es : List Expr) (cs : List Str) : Prop := PA X es (cs.foldr (fun d t => tCons (tC (.ref (He.ga X.K d))) t) tNil)
theorem Q_n : PQ X [] [] := pa_nil
theorem Q_c {c : Str} {es : List Expr} {cs : List Str} (hm : X.mg c = some (.ref (He.ga X.K c))) (h : PQ X es cs) (hg : Gl X c := by rfl) (hd : (c == ("__debug__" : Str)) = false := by decide)
    (hs : starEach (.Name c p :: es) X.env = (false, eval (.Name c p) X.env) :: starEach es X.env := by rfl) : PQ X (.Name c p :: es) (c :: cs) := pa_cons (pe_glob (v := .ref (He.ga X.K c)) hg hm rfl hd) h hs
theorem P_isX1 {c : Str} {h0} (F : XFs X.K l) (hq : inQ l (.one c) = true) (hm : X.mg "isinstance" = none) (hmc : X.mg c = some (.ref (He.ga X.K c))) (ha : PE X e (A.t W)) (hg : Gl X "isinstance" := by rfl) (hgc : Gl X c := by rfl) (hdc : (c == ("__debug__" : Str)) = false := by decide)
    (he : starEach [e, .Name c p] X.env = (false, eval e X.env) :: starEach [.Name c p] X.env := by rfl) (he2 : starEach [.Name c p] X.env = (false, eval (.Name c p) X.env) :: starEach [] X.env := by rfl) (hpl : (backTo pos (starEach [.Name c p] X.env)).any (·.1) = false := by rfl) :
    PE X (.Call (.Name "isinstance" p2) [e, .Name c p] [] pos) ((bIsX l (.one c) h0 A).t W) :=
  pe_callB (call_isX F hq) hg hm (by decide +kernel) (pa_cons ha (pa_cons (pe_glob (v := .ref (He.ga X.K c)) hgc hmc rfl hdc) pa_nil he2) he) (by decide) (by decide) he hpl
theorem P_isXv {h0} (F : XFs X.K l) (hm : X.mg "isinstance" = none) (hmc : X.mg "ValueError" = none) (ha : PE X e (A.t W)) (hg : Gl X "isinstance" := by rfl) (hgc : Gl X "ValueError" := by rfl)
    (he : starEach [e, .Name "ValueError" p] X.env = (false, eval e X.env) :: starEach [.Name "ValueError" p] X.env := by rfl) (he2 : starEach [.Name "ValueError" p] X.env = (false, eval (.Name "ValueError" p) X.env) :: starEach [] X.env := by rfl) (hpl : (backTo pos (starEach [.Name "ValueError" p] X.env)).any (·.1) = false := by rfl) :
    PE X (.Call (.Name "isinstance" p2) [e, .Name "ValueError" p] [] pos) ((bIsX l .ve h0 A).t W) :=
  pe_callB (call_isX (q := .ve) F rfl) hg hm (by decide +kernel) (pa_cons ha (pa_cons (pe_bltn (v := .ty "ValueError") hgc hmc (by decide +kernel) rfl (by decide) (by decide)) pa_nil he2) he) (by decide) (by decide) he hpl
theorem P_isXm {es : List Expr} {cs : List Str} {k : Nat} {h0} (F : XFs X.K l) (hq : inQ l (.many cs) = true) (hm : X.mg "isinstance" = none) (hmc : PQ X es cs) (ha : PE X e (A.t W)) (hg : Gl X "isinstance" := by rfl)
    (he : starEach [e, .Tuple es k p] X.env = (false, eval e X.env) :: starEach [.Tuple es k p] X.env := by rfl) (he2 : starEach [.Tuple es k p] X.env = (false, eval (.Tuple es k p) X.env) :: starEach [] X.env := by rfl)
    (hpl : (backTo pos (starEach [.Tuple es k p] X.env)).any (·.1) = false := by rfl) :
    PE X (.Call (.Name "isinstance" p2) [e, .Tuple es k p] [] pos) ((bIsX l (.many cs) h0 A).t W) :=
  pe_callB (call_isX F hq) hg hm (by decide +kernel) (pa_cons ha (pa_cons (pe_tup hmc) pa_nil he2) he) (by decide) (by decide) he hpl
theorem P_xf {f : Str} (F : XFs X.K l) (ha : PE X e (A.t W)) (hb : attributeBase e f X.env (eval e X.env) = eval e X.env := by rfl) : PE X (.Attribute e f pos) ((bXf l f A).t W) := pe_xfT F ha hb
end
end T

/-! try as a bundle. -/
namespace T
open PySem PyProof.Rows L2
/-- what was caught, as data -/
def exD (a dd : Addr) (n : Bool) (x : Exn) : D := match x.f with
  | none => .exn a none x.c "" .non n
  | some (f, d) => .exn a (some dd) x.c f d n
def slotD (ρ : En) (i : Option Nat) (d : D) : En := match i with
  | none => ρ
  | some i => ρ.set i (some d)
def delD (ρ : En) (i : Option Nat) : En := match i with
  | none => ρ
  | some i => ρ.set i none
def endD (k : KD) (i : Option Nat) : KD := { nx := fun ρ ω => k.nx (delD ρ i) ω, rt := k.rt, bk := fun ρ ω => k.bk (delD ρ i) ω, ct := fun ρ ω => k.ct (delD ρ i) ω, xc := fun _ _ _ => False }
abbrev HdD (K : Fg) := Str × Option Nat × BS K
def wHds {K : Fg} (n : Bool) (k : KD) : List (HdD K) → Exn → En → Om → Prop
  | [], x, ρ, ω => k.xc x ρ ω
  | (c, i, B) :: r, x, ρ, ω => if subX x.c c = true then ∀ a dd, B.w (slotD ρ i (exD a dd n x)) ω (endD k i) else wHds n k r x ρ ω
def wHdsT (K : Fg) (n : Bool) (Wout : WX) (D : Ends) (c0 : Str) : List (HdD K) → WX
  | [] => Wout
  | (c, i, B) :: r => fun cls d σ H => if subX c0 c = true then ∀ a, H a = none → B.t W0 (endT D i) (putT σ i a) (upd H a (ExT K a c0 d n)) else wHdsT K n Wout D c0 r cls d σ H
def wTryD (K : Fg) (l : ECls) (n : Bool) (Wout : WX) (D : Ends) (hs : List (HdD K)) : WX := fun cls d σ H => ∃ c0, inL l c0 = true ∧ cls = .ref (He.ga K c0) ∧ wHdsT K n Wout D c0 hs cls d σ H
section
variable {K : Fg}
theorem kOk_end {z : Z} {k : KD} {D' : Ends} {V : WX} {i : Option Nat} (hk : KOk K V z k D') : KOk K W0 z (endD k i) (endT D' i) := by
  cases i with
  | none => exact ⟨hk.nx, hk.rt, hk.bk, hk.ct, fun _ _ _ _ _ _ _ _ _ h => h.elim⟩
  | some i => exact ⟨fun σ2 ρ2 z2 t r h => hk.nx _ _ _ t (r.del i none) h, hk.rt, fun σ2 ρ2 z2 t r h => hk.bk _ _ _ t (r.del i none) h, fun σ2 ρ2 z2 t r h => hk.ct _ _ _ t (r.del i none) h, fun _ _ _ _ _ _ _ _ _ h => h.elim⟩
theorem repE_put {z : Z} {σ : L2.St} {ρ : En} {i : Option Nat} {a : Addr} {d : D} (r : RepE K z.d σ ρ) (h : Rep K z.d (.ref a) d) : RepE K z.d (putT σ i a) (slotD ρ i d) := by
  cases i with
  | none => exact r
  | some i => exact r.set i h
theorem wHds_ok {n : Bool} {k : KD} {D' : Ends} {V : WX} {x : Exn} {cls : Value} {d : Option Addr} {σ : L2.St} {ρ : En} {z : Z} (hk : KOk K V z k D') (ok : z.Ok K) (r : RepE K z.d σ ρ) (rx : RepX K z cls d x) : ∀ {hs : List (HdD K)}, wHds n k hs x ρ z.o → wHdsT K n V D' x.c hs cls d σ z.h
  | [], h => hk.xc _ _ _ _ _ _ ok.to r rx h
  | (c, i, B) :: hs, h => by
    unfold wHds at h
    unfold wHdsT
    by_cases q : subX x.c c = true
    · rw [if_pos q] at h ⊢
      intro a na
      have t := ok.add (o := ExT K a x.c d n) na (by intro ps e; unfold ExT at e; cases e)
      obtain ⟨xc, xf⟩ := x
      have key : ∃ dd, Rep K (upd z.d a (ExT K a xc d n)) (.ref a) (exD a dd n ⟨xc, xf⟩) := by
        obtain ⟨_, r2⟩ := rx
        cases xf with
        | none =>
          have r2 : d = none := r2
          subst r2
          exact ⟨0, .exn0 upd_same⟩
        | some p =>
          obtain ⟨a', v, rfl, h1, h2⟩ := r2
          exact ⟨a', .exn1 upd_same (t.ex _ _ h1) (h2.mono t.ex)⟩
      obtain ⟨dd, hr⟩ := key
      exact B.ok W0 _ ⟨upd z.d a (ExT K a xc d n), upd z.h a (ExT K a xc d n), z.o, z.t⟩ _ _ _ (h a dd) t.ok (repE_put (r.mono t.ex) hr) (kOk_end (hk.to t))
    · rw [if_neg q] at h ⊢
      exact wHds_ok hk ok r rx h
def bsTry (l : ECls) (n : Bool) (S : BS K) (hs : List (HdD K)) : BS K where
  t := fun V D σ H => S.t (wTryD K l n V D hs) D σ H
  w := fun ρ ω k => S.w ρ ω { k with xc := fun x ρ1 ω1 => inL l x.c = true ∧ wHds n k hs x ρ1 ω1 }
  ok := fun V ρ z σ D' k h ok r hk => by
    refine S.ok _ ρ z σ D' _ h ok r ⟨hk.nx, hk.rt, hk.bk, hk.ct, fun x cls d σ2 ρ2 z2 t r2 rx h2 => ?_⟩
    exact ⟨x.c, h2.1, rx.1, wHds_ok (hk.to t) t.ok r2 rx h2.2⟩
theorem x_try {l : ECls} {n : Bool} {S : BS K} {hs : List (HdD K)} {ρ : En} {ω : Om} {k : KD} : (bsTry l n S hs).w ρ ω k = S.w ρ ω { k with xc := fun x ρ1 ω1 => inL l x.c = true ∧ wHds n k hs x ρ1 ω1 } := rfl
end
section
variable {X : Cx} {n : Bool} {l : ECls}
/-- the clauses, told of the bundles -/
inductive HdsD (X : Cx) (l : ECls) : List ExceptHandler → List (HdD X.K) → Prop
  | nil : HdsD X l [] []
  | bare {c : Str} {B : BS X.K} {b0 : Stmt} {su : List Stmt} {np p' : Pos} {hds : List ExceptHandler} {hs : List (HdD X.K)} (hl : inL l c = true) (hm : X.mg c = some (.ref (He.ga X.K c))) (hg : Gl X c) (hd : (c == ("__debug__" : Str)) = false)
      (hsu : ∀ (a : Addr) (pn : List (Addr × Obj)), PSs (Cx.sui X a pn) (b0 :: su) (B.t W0)) (r : HdsD X l hds hs) : HdsD X l (.ExceptHandler (some (.Name c np)) none (b0 :: su) p' :: hds) ((c, none, B) :: hs)
  | as {c y : Str} {i : Nat} {B : BS X.K} {b0 : Stmt} {su : List Stmt} {np p' : Pos} {hds : List ExceptHandler} {hs : List (HdD X.K)} (hl : inL l c = true) (hm : X.mg c = some (.ref (He.ga X.K c))) (hg : Gl X c) (hd : (c == ("__debug__" : Str)) = false)
      (hi : X.N[i]? = some y) (hy : X.env.kindOf y = some .local) (hsu : ∀ (a : Addr) (pn : List (Addr × Obj)), PSs (Cx.sui X a pn) (b0 :: su) (B.t W0)) (r : HdsD X l hds hs) : HdsD X l (.ExceptHandler (some (.Name c np)) (some y) (b0 :: su) p' :: hds) ((c, some i, B) :: hs)
def hdT {K : Fg} (p : HdD K) : HdT := (.ref (He.ga K p.1), p.2.1, fun _ _ _ => p.2.2.t W0)
theorem hdsD_T {hds : List ExceptHandler} {hs : List (HdD X.K)} (h : HdsD X l hds hs) : HdsT X hds (hs.map hdT) := by
  induction h with
  | nil => exact .nil
  | bare hl hm hg hd hsu r ih => exact .bare ⟨hg, hd, .inl hm⟩ (fun a pn _ _ => hsu a pn) ih
  | as hl hm hg hd hi hy hsu r ih => exact .as ⟨hg, hd, .inl hm⟩ hi hy (fun a pn _ _ => hsu a pn) ih
theorem wTryD_T {hds : List ExceptHandler} {hs : List (HdD X.K)} (F : XFs X.K l) (h : HdsD X l hds hs) {V : WX} {D : Ends} {c0 : Str} (hc : inL l c0 = true) {cls : Value} {d : Option Addr} {σ : L2.St} {H : Hp} (e : cls = .ref (He.ga X.K c0)) (w : wHdsT X.K n V D c0 hs cls d σ H) : wTry X.K n V D (hs.map hdT) cls d σ H := by
  obtain ⟨f, hf⟩ := inL_mem hc
  induction h with
  | nil => exact w
  | @bare c B b0 su np p' hds hs hl hm hg hd hsu r ih =>
    obtain ⟨g, hg'⟩ := inL_mem hl
    unfold wHdsT at w
    refine ⟨subX c0 c, by rw [e]; exact (F.pair hf hg').1, fun q a na => ?_, fun q => ?_⟩
    · rw [if_pos q] at w
      subst e
      exact w a na
    · rw [if_neg (by rw [q]; decide)] at w
      exact ih w
  | @as c y i B b0 su np p' hds hs hl hm hg hd hi hy hsu r ih =>
    obtain ⟨g, hg'⟩ := inL_mem hl
    unfold wHdsT at w
    refine ⟨subX c0 c, by rw [e]; exact (F.pair hf hg').1, fun q a na => ?_, fun q => ?_⟩
    · rw [if_pos q] at w
      subst e
      exact w a na
    · rw [if_neg (by rw [q]; decide)] at w
      exact ih w
theorem S_try {W : WX} {body : List Stmt} {h0 : ExceptHandler} {hds : List ExceptHandler} {hs : List (HdD X.K)} {S : BS X.K} {pos : Pos} (F : XFs X.K l) (hN : X.N.Nodup) (tk : TakesK n X W) (hh : HdsD X l (h0 :: hds) hs)
    (hb : ∀ (V : WX) (pn : List (Addr × Obj)) (xe : Value → Shared → Prop), TakesK n (X.tr pn xe) V → PassesOwn (model X.prog X.w) X.A X.env xe → PSs (X.tr pn xe) body (S.t V)) (h1 : X.stack = X.env :: X.outer := by rfl) (h2 : X.env.frame = some X.env.locals := by rfl) (h3 : X.ex = [] := by rfl) :
    PS X (.Try body (h0 :: hds) [] [] pos) ((bsTry l n S hs).t W) := by
  refine ps_tryT (n := n) (Wout := W) (l := hs.map hdT) (wf := fun D => wTryD X.K l n W D hs) (tb := fun V => S.t V) (fun D cls d σ H h => ?_) h1 h2 h3 hN tk hb (hdsD_T hh)
  obtain ⟨c0, hc, e, h⟩ := h
  exact wTryD_T F hh hc e h
end
end T

/-! Equations for walks with exceptions. -/
namespace T
open PySem L2
def isXW (l : ECls) (q : QC) (x : D) (ω : Om) (Φ : D → Om → Prop) : Prop := match x with
  | .exn _ _ c _ _ _ => inL l c = true ∧ Φ (.bl (ansQ c q)) ω
  | _ => False
def xfW (l : ECls) (f : Str) (x : D) (ω : Om) (Φ : D → Om → Prop) : Prop := match x with
  | .exn _ (some _) c g d _ => g = f ∧ (c, some f) ∈ l ∧ Φ d ω
  | _ => False
section
variable {K : Fg} {l : ECls} {q : QC} {A : BE K} {ρ : En} {ω : Om} {Φ : D → Om → Prop} {Ψ : Exn → Om → Prop} {n : Bool} {k : KD}
theorem x_isE {hq : (match q with | .many ds => decide (ds.length ≤ 100) | _ => true) = true} : (bIsX l q hq A).w ρ ω Φ Ψ = A.w ρ ω (fun x ω1 => isXW l q x ω1 Φ) Ψ := by
  rw [x_isX]; congr 1
theorem x_fE {f : Str} : (bXf l f A).w ρ ω Φ Ψ = A.w ρ ω (fun x ω1 => xfW l f x ω1 Φ) Ψ := by
  rw [x_xf]; congr 1
theorem x_isXW {a : Addr} {dd : Option Addr} {c f : Str} {d : D} (h : inL l c = true) : isXW l q (.exn a dd c f d n) ω Φ = Φ (.bl (ansQ c q)) ω := by
  show (inL l c = true ∧ _) = _
  simp [h]
theorem x_xfW {a dd : Addr} {c f : Str} {d : D} (h : (c, some f) ∈ l) : xfW l f (.exn a (some dd) c f d n) ω Φ = Φ d ω := by
  show (f = f ∧ (c, some f) ∈ l ∧ _) = _
  simp [h]
theorem x_exD0 {a dd : Addr} {c : Str} : exD a dd n ⟨c, none⟩ = .exn a none c "" .non n := rfl
theorem x_exD1 {a dd : Addr} {c f : Str} {d : D} : exD a dd n ⟨c, some (f, d)⟩ = .exn a (some dd) c f d n := rfl
theorem x_hds0 {x : Exn} : wHds n k ([] : List (HdD K)) x ρ ω = k.xc x ρ ω := rfl
theorem x_hdsY {c : Str} {i : Option Nat} {B : BS K} {r : List (HdD K)} {x : Exn} (h : subX x.c c = true) : wHds n k ((c, i, B) :: r) x ρ ω = ∀ a dd, B.w (slotD ρ i (exD a dd n x)) ω (endD k i) := by
  show (if subX x.c c = true then _ else _) = _
  rw [if_pos h]
theorem x_hdsN {c : Str} {i : Option Nat} {B : BS K} {r : List (HdD K)} {x : Exn} (h : subX x.c c = false) : wHds n k ((c, i, B) :: r) x ρ ω = wHds n k r x ρ ω := by
  show (if subX x.c c = true then _ else _) = _
  rw [if_neg (by rw [h]; decide)]
theorem x_slotN {d : D} : slotD ρ none d = ρ := rfl
theorem x_slotS {d : D} {i : Nat} : slotD ρ (some i) d = ρ.set i (some d) := rfl
theorem x_delN : delD ρ none = ρ := rfl
theorem x_delS {i : Nat} : delD ρ (some i) = ρ.set i none := rfl
theorem x_tryI {S : BS K} {hs : List (HdD K)} : (bsTry l n S hs).w ρ ω k = S.w ρ ω ⟨k.nx, k.rt, k.bk, k.ct, fun x ρ1 ω1 => inL l x.c = true ∧ wHds n k hs x ρ1 ω1⟩ := rfl
/-- what a try of a body that raises as told comes to -/
theorem w_try {S : BS K} {hs : List (HdD K)} (h : S.w ρ ω ⟨k.nx, k.rt, k.bk, k.ct, fun x ρ1 ω1 => inL l x.c = true ∧ wHds n k hs x ρ1 ω1⟩) : (bsTry l n S hs).w ρ ω k := h
end
theorem xfs_of {l : ECls} {K : Fg} (h : excB l K = true) : XFs K l := ⟨h⟩
end T

/-! s.replace(a, b) of written texts, behind another written text. -/
namespace T
open PySem PySem.Spec PyProof.Rows L2
/-- s with z in the place of each y -/
def replL (y z : Str) (s : List Nat) : List Nat := cs (Txt.replace (sOf s) y z)
theorem replL_len (y z : Str) (s : List Nat) : (replL y z s).length ≤ s.length + (s.length + 1) * (cs z).length := by
  have h := TK.replace_len (sOf s) y z
  have e1 : (replL y z s).length = (Txt.replace (sOf s) y z).length := by simp [replL, T.cs, Str.length]
  have e2 : (sOf s).length = s.length := by simp [sOf, Str.length]
  have e3 : z.length = (T.cs z).length := by simp [T.cs, Str.length]
  rw [e1]
  rw [e2, e3] at h
  exact h
section
variable {K : Fg}
def replW (y z : Str) (x : D) (ω : Om) (Φ : D → Om → Prop) : Prop := match x with
  | .str s => s.length + (s.length + 1) * (cs z).length ≤ 16777216 ∧ Φ (.str (replL y z s)) ω
  | _ => False
def bRepl (y z : Str) (A : BE K) : BE K where
  t := fun W => CwR.tReplC (A.t W) y z
  w := fun ρ ω Φ Ψ => A.w ρ ω (fun x ω1 => replW y z x ω1 Φ) Ψ
  ok := fun W ρ zz σ Q Φ Ψ h k r q qx => by
    refine A.ok W ρ zz σ _ _ Ψ h k r (fun v z1 d t1 r1 h1 => ?_) qx
    unfold replW at h1
    split at h1
    · rename_i s
      cases r1
      refine ⟨⟨s.toArray⟩, rfl, ?_, q _ z1 _ t1 (Rep.cs _) h1.2⟩
      have e2 : Str.length ⟨s.toArray⟩ = s.length := by simp [Str.length]
      have e3 : z.length = (T.cs z).length := by simp [T.cs, Str.length]
      rw [e2, e3]
      exact h1.1
    · exact h1.elim
theorem x_repl {y z : Str} {A : BE K} {ρ : En} {ω : Om} {Φ : D → Om → Prop} {Ψ : Exn → Om → Prop} : (bRepl y z A).w ρ ω Φ Ψ = A.w ρ ω (fun x ω1 => replW y z x ω1 Φ) Ψ := rfl
theorem x_replW {y z : Str} {s : List Nat} {ω : Om} {Φ : D → Om → Prop} (h : s.length + (s.length + 1) * (cs z).length ≤ 16777216) : replW y z (.str s) ω Φ = Φ (.str (replL y z s)) ω := by
  exact cond h
end
/-! a tuple beside (), a list beside []: != -/
def rNeE (K : Fg) : R2 := fun x y H Q => ∃ a b xs, x = .ref a ∧ y = .ref b ∧ ((SqT K H a xs ∧ SqT K H b []) ∨ (SqL K H a xs ∧ SqL K H b [])) ∧ Q (.bl (!xs.isEmpty)) H
theorem op_neE {X : Cx} (hu : X.A.units < cLine) : OpR X (compareOp .NotEq) (rNeE X.K) := by
  intro pins s σ H x y v u Q I rx ry h
  obtain ⟨a, b, xs, rfl, rfl, h, q⟩ := h
  cases rx
  cases ry
  rcases h with ⟨ha, hb⟩ | ⟨ha, hb⟩
  · obtain ⟨its, rv, p, hz⟩ := I.tuple ha
    obtain ⟨its2, rv2, p2, hz2⟩ := I.tuple hb
    cases rv2
    have e := SeqAt.RcNeAt.tuples (A := X.A) (e := fun _ => true) (show s.heap.IsTuple a its.toArray from p) (show s.heap.IsTuple b ([] : List Value).toArray from p2) hu (fun j h1 h2 => absurd h2 (Nat.not_lt_zero _))
    refine e _ _ _ _ ⟨.bl (!xs.isEmpty), H, I, ?_, q⟩
    show Value.bool _ = Value.bool _
    cases rv <;> rfl
  · obtain ⟨its, rv, p, hz⟩ := I.list ha
    obtain ⟨its2, rv2, p2, hz2⟩ := I.list hb
    cases rv2
    cases rv with
    | nil =>
      have e := SeqAt.RcNeAt.lists (A := X.A) (e := fun _ => true) p.isList p2.isList rfl hu (fun j h1 h2 => absurd h2 (Nat.not_lt_zero _))
      exact e _ _ _ _ ⟨.bl false, H, I, rfl, q⟩
    | cons r1 r2 =>
      have e := SeqAt.RcNeAt.lists_lengths (A := X.A) p.isList p2.isList rfl hu
      exact e _ _ _ _ ⟨.bl true, H, I, rfl, q⟩
section
variable {K : Fg}
def oNeE : O2 K where
  r := rNeE K
  w := fun x y ω Φ => match y with
    | .tup [] => (match x with
      | .tup ds => Φ (.bl (!ds.isEmpty)) ω
      | _ => False)
    | .lst [] => ∃ ds, lstOf ω x = some ds ∧ Φ (.bl (!ds.isEmpty)) ω
    | _ => False
  ok := fun z x y d e Q Φ h k r1 r2 q => by
    split at h
    · split at h
      · obtain ⟨a, xs, rfl, ha, rx⟩ := rep_tup r1
        obtain ⟨b, ys, rfl, hb, ry⟩ := rep_tup r2
        cases ry
        refine ⟨a, b, xs, rfl, rfl, .inl ⟨k.fz.sqt ha, k.fz.sqt hb⟩, ?_⟩
        rw [rx.nil_iff]
        exact q _ z _ k.to (.bl _) h
      · exact h.elim
    · obtain ⟨ds, h1, h2⟩ := h
      obtain ⟨a, xs, rfl, ha, rx⟩ := lst_of k r1 h1
      obtain ⟨b, ys, rfl, hb, ry⟩ := rep_lst r2
      cases ry
      refine ⟨a, b, xs, rfl, rfl, .inr ⟨SqL.of ha, SqL.of (k.fz _ _ hb)⟩, ?_⟩
      rw [rx.nil_iff]
      exact q _ z _ k.to (.bl _) h2
    · exact h.elim
theorem op_oNeE {X : Cx} (hu : X.A.units + 64 < cLine) : OpR X (compareOp .NotEq) (oNeE (K := X.K)).r := op_neE (by omega)
theorem x_neE0 {ds : List D} {ω : Om} {Φ : D → Om → Prop} : (oNeE : O2 K).w (.tup ds) (.tup []) ω Φ = Φ (.bl (!ds.isEmpty)) ω := rfl
theorem x_neE1 {x : D} {ω : Om} {Φ : D → Om → Prop} : (oNeE : O2 K).w x (.lst []) ω Φ = optW (lstOf ω x) fun ds => Φ (.bl (!ds.isEmpty)) ω := propext optW_iff.symm
end
section
variable {X : Cx} {W : WX} {e o : Expr} {es : List Expr} {A B : BE X.K} {As : BA X.K} {y z : Str} {j k : Nat} {c0 c1 apos pos p : Pos}
abbrev PETb (X : Cx) (e : Expr) (t : TE) : Prop := PET X e t
theorem P_T (h : PE X e (A.t W)) : PET X e (A.t W) := CwR.PET.of h
theorem P_repl (ho : PE X o (A.t W)) (hyz : (y == z) = false := by decide)
    (hst : starEach [.Constant (.str y) j c0, .Constant (.str z) k c1] X.env = [(false, eval (.Constant (.str y) j c0) X.env), (false, eval (.Constant (.str z) k c1) X.env)] := by rfl)
    (hbase : attributeBase o "replace" X.env (eval o X.env) = eval o X.env := by rfl) (hline : (apos.endLine == pos.line) = true := by rfl) :
    PET X (.Call (.Attribute o "replace" apos) [.Constant (.str y) j c0, .Constant (.str z) k c1] [] pos) ((bRepl y z A).t W) := CwR.pet_replC ho hyz hst hbase hline
theorem A_nT : PAT X [] ((baN : BA X.K).t W) := pat_nil
theorem A_cT (ha : PET X e (A.t W)) (hr : PAT X es (As.t W)) (hs : starEach (e :: es) X.env = (false, eval e X.env) :: starEach es X.env := by rfl) : PAT X (e :: es) ((baC A As).t W) := pat_cons ha hr hs
/-- a written text first: behind it a token is out -/
theorem A_hT {s : Str} {l : List Nat} {h : cs s = l} (hr : PAT X es (As.t W)) (hs : starEach (.Constant (.str s) j c0 :: es) X.env = (false, eval (.Constant (.str s) j c0) X.env) :: starEach es X.env := by rfl) :
    PA X (.Constant (.str s) j c0 :: es) ((baC (bLit s l h) As).t W) := by
  refine ⟨fun pos pins st σ H Q I hq => ?_⟩
  rw [hs]
  show wpAny _ _ (spliced ((false, eval (.Constant (.str s) j c0) X.env) :: backTo pos (starEach es X.env))) _ _ st
  refine Calls.spliced_cons (Calls.Constant_str ?_)
  exact thn (hr pos pins { st with toks := st.toks + 1 } σ H _ (by show 1 ≤ st.toks + 1; omega) (I.tok _) hq) fun us s2 ⟨xs, H2, I2, r2, q2⟩ => ⟨.str s :: xs, H2, I2, .cons ⟨_, rfl⟩ r2, q2⟩
/-- a written text + .. -/
theorem P_opT {op : Operator} {o : O2 X.K} {s : Str} {l : List Nat} {h : cs s = l} (ho : OpR X (binaryOp op) o.r) (hb : PET X e (B.t W)) : PE X (.BinOp (.Constant (.str s) j c0) op e pos) ((bOp o (bLit s l h) B).t W) := by
  refine ⟨fun pins st σ H Q I hq => ?_⟩
  refine wpAny_BinOp (Calls.Constant_str ?_)
  exact thn (hb pins { st with toks := st.toks + 1 } σ H _ (by show 1 ≤ st.toks + 1; omega) (I.tok _) hq) fun u s2 ⟨y, H2, I2, r2, q2⟩ => ho pins s2 σ H2 (.str s) y (.str s st.toks) u Q I2 ⟨_, rfl⟩ r2 q2
end
/-! len(set(numbers)), like ones too -/
section
variable {X : Cx}
def tLenSetJ (K : Fg) (ta : TE) : TE := fun σ H Q => ta σ H fun x H1 => ∃ (l : Addr) (ns : List Int), x = V.ref l ∧ SqL K H1 l (ns.map V.int) ∧ ns.length ≤ 4000 ∧ ∀ us : List Int, us.Nodup → (∀ k, k ∈ us ↔ k ∈ ns) → Q (.int (us.length : Nat)) H1
theorem pe_lenSetJ {a : Expr} {ta : TE} {p p2 q pos : Pos} (hc : X.calm = true) (hg : Gl X "len") (hm : X.mg "len" = none) (hg2 : Gl X "set") (hm2 : X.mg "set" = none) (ha : PE X a ta)
    (na : starEach [a] X.env = (false, eval a X.env) :: starEach [] X.env := by rfl) : PE X (.Call (.Name "len" p) [.Call (.Name "set" p2) [a] [] q] [] pos) (tLenSetJ X.K ta) := by
  refine ⟨fun pins s σ H Q I h => Call_ (ld_blt I hg hm PySem.boot_len (callWith_builtin1 (args_cons (Call_ (ld_blt I hg2 hm2 boot_set (callWith_type1 (args_cons (thn (ha.run pins s σ H _ I h) fun v s1 ⟨x, H1, I1, r1, q1⟩ => args_nil ?_) na) na rfl))) rfl) rfl rfl))⟩
  obtain ⟨l, ns, rfl, hq, h1, q1⟩ := q1
  cases r1
  obtain ⟨its, r, pl, hz⟩ := I1.list hq
  refine call_set_listI (I1.ok.hd hc) pl.isList (xs := ns) (by simpa using r.ints) (by unfold scanBound; omega) fun h' tk c hS hcl hk => args_nil ?_
  have I2 : Inv X pins σ H1 { s1 with heap := h', toks := tk } := I1.kept fun b o e => hk b o (Heap.lt_size e) e
  obtain ⟨o, es, ep, t, ho, hx, hd, _, nd, hm3, hb, hf, hn, _⟩ := hS
  have he : es.size = (es.toList.map keyOf).length := by rw [List.length_map, Array.length_toList]
  refine call_len_set ho hx hd hf (by rw [hn] <;> omega) ⟨.int ((es.toList.map keyOf).length : Nat), H1, I2.tok _, ⟨_, by rw [he]⟩, q1 _ nd fun k => ?_⟩
  rw [← hm3 k]
  exact decide_eq_true_iff
end
section
variable {K : Fg}
def bLenSetJ (a : BE K) : BE K where
  t := fun W => tLenSetJ K (a.t W)
  w := fun ρ ω Φ Ψ => a.w ρ ω (fun x ω1 => optW (lstOf ω1 x) fun us => optW (intsOf us) fun ns => NeedW (ns.length ≤ 4000) (∀ l : List Int, l.Nodup → (∀ k, k ∈ l ↔ k ∈ ns) → Φ (.int (l.length : Nat)) ω1)) Ψ
  ok := fun W ρ z σ Q Φ Ψ h k r q qx => by
    refine a.ok W ρ z σ _ _ Ψ h k r (fun x z1 d t1 r1 h1 => ?_) qx
    obtain ⟨us, h2, h1⟩ := optW_iff.mp h1
    obtain ⟨ns, h3, h1⟩ := optW_iff.mp h1
    obtain ⟨l, ys, rfl, ha, ry⟩ := lstOf_seq t1.ok r1 h2
    rw [intsOf_eq h3] at ry
    rw [RepL.ints ry] at ha
    exact ⟨l, ns, rfl, ha, h1.1, fun m nd mem => q _ z1 _ t1 (.int _) (h1.2 m nd mem)⟩
theorem x_lenSetJ {A : BE K} {ρ : En} {ω : Om} {Φ : D → Om → Prop} {Ψ : Exn → Om → Prop} : (bLenSetJ A).w ρ ω Φ Ψ = A.w ρ ω (fun x ω1 => optW (lstOf ω1 x) fun us => optW (intsOf us) fun ns => NeedW (ns.length ≤ 4000) (∀ l : List Int, l.Nodup → (∀ k, k ∈ l ↔ k ∈ ns) → Φ (.int (l.length : Nat)) ω1)) Ψ := rfl
/-- s.upper(): how long it is -/
def m_upper : BM K where
  r := fun x xs H Q => ∃ a, x = .str a ∧ xs = [] ∧ a.length ≤ 5592405 ∧ Q (.str (Txt.upper a)) H
  w := fun x xs ω Φ => match x, xs with
    | .str s, [] => s.length ≤ 5000000 ∧ ∀ u : List Nat, u.length ≤ 3 * s.length → Φ (.str u) ω
    | _, _ => False
  ok := fun z x xs d ds Q Φ h k r rs q => by
    split at h
    · rename_i s
      cases r
      cases rs
      refine ⟨_, rfl, rfl, by show s.toArray.size ≤ _; simp; omega, ?_⟩
      refine q _ z _ k.to (Rep.cs _) (h.2 _ ?_)
      have := PyProof.Rows.len_upper (⟨s.toArray⟩ : Str)
      have e1 : (T.cs (Txt.upper (⟨s.toArray⟩ : Str))).length = (Txt.upper (⟨s.toArray⟩ : Str)).length := by simp [T.cs, Str.length]
      have e2 : (⟨s.toArray⟩ : Str).length = s.length := by simp [Str.length]
      omega
    · exact h.elim
theorem x_upper {s : List Nat} {ω : Om} {Φ : D → Om → Prop} : (m_upper : BM K).w (.str s) [] ω Φ = NeedW (s.length ≤ 5000000) (∀ u : List Nat, u.length ≤ 3 * s.length → Φ (.str u) ω) := rfl
end
theorem mt_upper_ {X : Cx} : MtR X "str.upper" (m_upper (K := X.K)).r := mt_upper
section
variable {X : Cx} {W : WX} {a : Expr} {A : BE X.K} {p p2 q pos : Pos}
theorem P_lenSetJ (hm : X.mg "len" = none) (hm2 : X.mg "set" = none) (ha : PE X a (A.t W)) (hg : Gl X "len" := by rfl) (hg2 : Gl X "set" := by rfl) (hc : X.calm = true := by rfl)
    (na : starEach [a] X.env = (false, eval a X.env) :: starEach [] X.env := by rfl) : PE X (.Call (.Name "len" p) [.Call (.Name "set" p2) [a] [] q] [] pos) ((bLenSetJ A).t W) := pe_lenSetJ hc hg hm hg2 hm2 ha na
end
/-! lists of texts: ==, != -/
theorem range_all_eq {xs ys : List Str} (h : xs.length = ys.length) : ((List.range xs.length).all fun j => xs.getD j default == ys.getD j default) = decide (xs = ys) := by
  rw [Bool.eq_iff_iff, List.all_eq_true, decide_eq_true_eq]
  constructor
  · intro q
    refine List.ext_getElem h fun i h1 h2 => ?_
    have := q i (List.mem_range.mpr h1)
    simpa [List.getD, h1, h2] using this
  · rintro rfl i hi
    simp
def rSL (neg : Bool) (K : Fg) : R2 := fun x y H Q => ∃ (a b : Addr) (xs ys : List Str), x = .ref a ∧ y = .ref b ∧ SqL K H a (xs.map V.str) ∧ SqL K H b (ys.map V.str) ∧ Q (.bl (if neg then !decide (xs = ys) else decide (xs = ys))) H
theorem vals_str {xs : List Str} {its : List Value} (h : Vals (xs.map V.str) its) {j : Nat} (hj : j < its.length) : ∃ t, its[j] = .str (xs.getD j default) t := by
  have hl : (xs.map V.str).length = its.length := h.length
  rw [List.length_map] at hl
  have h2 : (xs.map V.str)[j]? = some (V.str xs[j]) := by rw [List.getElem?_map, List.getElem?_eq_getElem (by omega)]; rfl
  obtain ⟨u, hu, t, rfl⟩ := h.get h2
  rw [List.getElem?_eq_getElem hj] at hu
  exact ⟨t, by rw [Option.some.inj hu]; simp [List.getD, show j < xs.length by omega]⟩
theorem op_neSL {X : Cx} (hu : X.A.units + 64 < cLine) : OpR X (compareOp .NotEq) (rSL true X.K) := by
  intro pins s σ H x y v u Q I rx ry h
  obtain ⟨a, b, xs, ys, rfl, rfl, ha, hb, q⟩ := h
  cases rx
  cases ry
  obtain ⟨its, rv, p, hz⟩ := I.list ha
  obtain ⟨its2, rv2, p2, hz2⟩ := I.list hb
  have l1 := rv.length
  have l2 := rv2.length
  rw [List.length_map] at l1 l2
  by_cases hs : xs.length = ys.length
  · have e := SeqAt.RcNeAt.lists (A := X.A) (e := fun j => xs.getD j default == ys.getD j default) p.isList p2.isList (by simp; omega) (by omega) (fun j h1 h2 => by
      obtain ⟨t, e1⟩ := vals_str rv (j := j) (by simpa using h1)
      obtain ⟨t2, e2⟩ := vals_str rv2 (j := j) (by simpa using h2)
      show SeqAt.EqAt _ _ its[j] its2[j] _
      rw [e1, e2]
      exact SeqAt.EqAt.str_str _ _ _ _)
    refine e _ _ _ _ ⟨.bl _, H, I, ?_, q⟩
    show Value.bool _ = Value.bool _
    rw [if_pos rfl, ← range_all_eq hs, l1]; simp
  · have e := SeqAt.RcNeAt.lists_lengths (A := X.A) p.isList p2.isList (by simp; omega) (by omega)
    refine e _ _ _ _ ⟨.bl _, H, I, ?_, q⟩
    show Value.bool _ = Value.bool _
    rw [if_pos rfl, decide_eq_false (fun e => hs (by rw [e]))]; rfl
section
variable {K : Fg}
def oNeSL : O2 K where
  r := rSL true K
  w := fun x y ω Φ => optW (lstOf ω x) fun as => optW (lstOf ω y) fun bs => optW (strsOf as) fun xs => optW (strsOf bs) fun ys => Φ (.bl (!decide (xs = ys))) ω
  ok := fun z x y d e Q Φ h k r1 r2 q => by
    obtain ⟨as, h1, h⟩ := optW_iff.mp h
    obtain ⟨bs, h2, h⟩ := optW_iff.mp h
    obtain ⟨xs, h3, h⟩ := optW_iff.mp h
    obtain ⟨ys, h4, h⟩ := optW_iff.mp h
    obtain ⟨a, us, rfl, ha, ra⟩ := lstOf_seq k r1 h1
    obtain ⟨b, vs, rfl, hb, rb⟩ := lstOf_seq k r2 h2
    rw [strsOf_eq h3] at ra
    rw [strsOf_eq h4] at rb
    rw [RepL.strs ra] at ha
    rw [RepL.strs rb] at hb
    refine ⟨a, b, _, _, rfl, rfl, ha, hb, ?_⟩
    have e : decide (xs.map sOf = ys.map sOf) = decide (xs = ys) := by
      rw [Bool.eq_iff_iff, decide_eq_true_eq, decide_eq_true_eq]
      refine ⟨fun z => ?_, fun z => by rw [z]⟩
      exact (List.map_inj_right (fun a b h => by unfold sOf at h; simpa using h)).mp z
    rw [if_pos rfl, e]
    exact q _ z _ k.to (.bl _) h
theorem op_oNeSL {X : Cx} (hu : X.A.units + 64 < cLine) : OpR X (compareOp .NotEq) (oNeSL (K := X.K)).r := op_neSL hu
theorem x_neSL {x y : D} {ω : Om} {Φ : D → Om → Prop} : (oNeSL : O2 K).w x y ω Φ = optW (lstOf ω x) fun as => optW (lstOf ω y) fun bs => optW (strsOf as) fun xs => optW (strsOf bs) fun ys => Φ (.bl (!decide (xs = ys))) ω := rfl
end
end T

/-! Classes: what a text's class must have; e.f, e.f = v, e.m(..), C(..); defs and methods with defaults. -/
namespace T
open PySem PyProof.Rows L2
/-- a class: its name, its instances' fields, its methods, each with the class that has it -/
abbrev CCl := Str × List Str × List (Str × Str)
def methB (K : Fg) (C : Addr) (m d : Str) : Bool :=
  PySem.W.findIn K (.ref C) m == some (some (.ref (He.fAd K (d, some m)))) && PySem.W.isFn K (.ref (He.fAd K (d, some m))) && PySem.W.keepIn K (.ref (He.fAd K (d, some m)))
def clsB (K : Fg) (c : CCl) : Bool :=
  PySem.W.plainGet K (He.ga K c.1) Str.empty && PySem.W.hasDictIn K (He.ga K c.1) && PySem.W.plainOver K (He.ga K c.1) && PySem.W.findIn K (.ref (He.ga K c.1)) "__setattr__" == some (some (.builtin "object.__setattr__")) &&
  PySem.W.makesIn K (He.ga K c.1) && PySem.W.keepIn K (.ref (He.ga K c.1)) && c.2.1.all (fun f => PySem.W.findIn K (.ref (He.ga K c.1)) f == some none) && c.2.2.all (fun m => methB K (He.ga K c.1) m.1 m.2)
def clssB (l : List CCl) (K : Fg) : Bool := l.all (clsB K)
structure XCl (K : Fg) (l : List CCl) : Prop where
  all : clssB l K = true
/-- the class c has the field f -/
def hasF (l : List CCl) (c f : Str) : Bool := l.any fun x => x.1 == c && x.2.1.contains f
/-- the class c has the method m, from the class d -/
def hasM (l : List CCl) (c m d : Str) : Bool := l.any fun x => x.1 == c && x.2.2.contains (m, d)
section
variable {K : Fg} {l : List CCl} {c f m d : Str}
theorem XCl.one (F : XCl K l) {x : CCl} (h : x ∈ l) : clsB K x = true := List.all_eq_true.mp F.all x h
theorem clsB_cls {x : CCl} (h : clsB K x = true) : Cls K (He.ga K x.1) := by
  unfold clsB at h
  simp only [Bool.and_eq_true, beq_iff_eq] at h
  obtain ⟨⟨⟨⟨⟨⟨⟨h1, h2⟩, h3⟩, h4⟩, h5⟩, h6⟩, h7⟩, h8⟩ := h
  exact ⟨h1, h2, h3, h4⟩
theorem XCl.fld (F : XCl K l) (h : hasF l c f = true) : Cls K (He.ga K c) ∧ NoAttr K (He.ga K c) f := by
  unfold hasF at h
  obtain ⟨x, hx, h⟩ := List.any_eq_true.mp h
  rw [Bool.and_eq_true, beq_iff_eq, List.contains_iff_mem] at h
  obtain ⟨rfl, hf⟩ := h
  have k := F.one hx
  refine ⟨clsB_cls k, ?_⟩
  unfold clsB at k
  simp only [Bool.and_eq_true, beq_iff_eq] at k
  obtain ⟨⟨⟨⟨⟨⟨⟨h1, h2⟩, h3⟩, h4⟩, h5⟩, h6⟩, h7⟩, h8⟩ := k
  have := List.all_eq_true.mp h7 f hf
  exact beq_iff_eq.mp this
theorem XCl.meth (F : XCl K l) (h : hasM l c m d = true) : Cls K (He.ga K c) ∧ Meth K (He.ga K c) m (He.fAd K (d, some m)) := by
  unfold hasM at h
  obtain ⟨x, hx, h⟩ := List.any_eq_true.mp h
  rw [Bool.and_eq_true, beq_iff_eq, List.contains_iff_mem] at h
  obtain ⟨rfl, hm⟩ := h
  have k := F.one hx
  refine ⟨clsB_cls k, ?_⟩
  unfold clsB at k
  simp only [Bool.and_eq_true, beq_iff_eq] at k
  obtain ⟨⟨⟨⟨⟨⟨⟨h1, h2⟩, h3⟩, h4⟩, h5⟩, h6⟩, h7⟩, h8⟩ := k
  have := List.all_eq_true.mp h8 _ hm
  unfold methB at this
  simp only [Bool.and_eq_true, beq_iff_eq] at this
  exact ⟨this.1.1, this.1.2, this.2⟩
theorem XCl.making (F : XCl K l) (h : hasM l c "__init__" c = true) : Mk K (He.ga K c) (He.fAd K (c, some "__init__")) := by
  have hm := (F.meth h).2
  unfold hasM at h
  obtain ⟨x, hx, h⟩ := List.any_eq_true.mp h
  rw [Bool.and_eq_true, beq_iff_eq, List.contains_iff_mem] at h
  obtain ⟨rfl, _⟩ := h
  have k := F.one hx
  unfold clsB at k
  simp only [Bool.and_eq_true, beq_iff_eq] at k
  obtain ⟨⟨⟨⟨⟨⟨⟨h1, h2⟩, h3⟩, h4⟩, h5⟩, h6⟩, h7⟩, h8⟩ := k
  exact ⟨h5, hm.at_, hm.fn, h6⟩
end
/-! ### fields over data -/
def putFD (f : Str) (v : D) : List (Str × D) → List (Str × D)
  | [] => [(f, v)]
  | (g, x) :: r => if g = f then (g, v) :: r else (g, x) :: putFD f v r
section
variable {K : Fg} {H : Hp}
theorem repK_putF {f : Str} {v : V} {d : D} (rv : Rep K H v d) : ∀ {xs : List (Str × V)} {ds : List (Str × D)}, RepK K H xs ds → RepK K H (putF f v xs) (putFD f d ds)
  | _, _, .nil => .cons ⟨rfl, rv⟩ .nil
  | _, _, .cons (a := p) (b := q) (l₁ := xs) (l₂ := ds) h r => by
    obtain ⟨g, x⟩ := p
    obtain ⟨g', x'⟩ := q
    obtain ⟨h1, h2⟩ := h
    have h1 : g = g' := h1
    subst h1
    show RepK K H (if g = f then (g, v) :: xs else (g, x) :: putF f v xs) (if g = f then (g, d) :: ds else (g, x') :: putFD f d ds)
    by_cases e : g = f
    · rw [if_pos e, if_pos e]; exact .cons ⟨rfl, rv⟩ r
    · rw [if_neg e, if_neg e]; exact .cons ⟨rfl, h2⟩ (repK_putF rv r)
theorem repK_look (f : Str) : ∀ {xs : List (Str × V)} {ds : List (Str × D)}, RepK K H xs ds → (xs.lookup f = none ∧ ds.lookup f = none) ∨ ∃ v d, xs.lookup f = some v ∧ ds.lookup f = some d ∧ Rep K H v d
  | _, _, .nil => .inl ⟨rfl, rfl⟩
  | _, _, .cons (a := p) (b := q) h r => by
    obtain ⟨g, x⟩ := p
    obtain ⟨g', x'⟩ := q
    obtain ⟨h1, h2⟩ := h
    have h1 : g = g' := h1
    subst h1
    by_cases e : f = g
    · have hb : (f == g) = true := beq_iff_eq.mpr e
      exact .inr ⟨x, x', by simp only [List.lookup, hb], by simp only [List.lookup, hb], h2⟩
    · have hb : (f == g) = false := beq_eq_false_iff_ne.mpr e
      simp only [List.lookup, hb]
      exact repK_look f r
theorem lookFD (f g : Str) (v : D) : ∀ fs : List (Str × D), (putFD f v fs).lookup g = if g = f then some v else fs.lookup g
  | [] => by
    show List.lookup g [(f, v)] = _
    by_cases h : g = f
    · have hb : (g == f) = true := beq_iff_eq.mpr h
      simp only [List.lookup, hb, if_pos h]
    · have hb : (g == f) = false := beq_eq_false_iff_ne.mpr h
      simp only [List.lookup, hb, if_neg h]
  | (k, x) :: r => by
    have ih := lookFD f g v r
    rw [show putFD f v ((k, x) :: r) = (if k = f then (k, v) :: r else (k, x) :: putFD f v r) from rfl]
    by_cases hk : k = f
    · rw [if_pos hk]
      by_cases h : g = k
      · have hb : (g == k) = true := beq_iff_eq.mpr h
        simp only [List.lookup, hb, if_pos (h.trans hk)]
      · have hb : (g == k) = false := beq_eq_false_iff_ne.mpr h
        simp only [List.lookup, hb, if_neg (fun e : g = f => h (e.trans hk.symm))]
    · rw [if_neg hk]
      by_cases h : g = k
      · have hb : (g == k) = true := beq_iff_eq.mpr h
        simp only [List.lookup, hb, if_neg (fun e : g = f => hk (h.symm.trans e))]
      · have hb : (g == k) = false := beq_eq_false_iff_ne.mpr h
        simp only [List.lookup, hb]
        exact ih
/-! ### e.f -/
def insW (o : Option Cell) (F : Str → List (Str × D) → Prop) : Prop := match o with
  | some (.ins c fs) => F c fs
  | _ => False
theorem insW_iff {o : Option Cell} {F : Str → List (Str × D) → Prop} : insW o F ↔ ∃ c fs, o = some (.ins c fs) ∧ F c fs := by
  unfold insW
  constructor
  · split
    · intro h; exact ⟨_, _, rfl, h⟩
    · exact False.elim
  · rintro ⟨c, fs, rfl, h⟩; exact h
def refW (d : D) (F : Addr → Prop) : Prop := match d with
  | .ref a => F a
  | _ => False
theorem refW_iff {d : D} {F : Addr → Prop} : refW d F ↔ ∃ a, d = .ref a ∧ F a := by
  unfold refW
  constructor
  · split
    · intro h; exact ⟨_, rfl, h⟩
    · exact False.elim
  · rintro ⟨a, rfl, h⟩; exact h
def tFldC (K : Fg) (l : List CCl) (f : Str) (ta : TE) : TE := fun σ H Q => ta σ H fun x H1 => ∃ a c dx fs v, x = .ref a ∧ H1 a = some (.ins (He.ga K c) dx fs) ∧ hasF l c f = true ∧ fs.lookup f = some v ∧ Q v H1
def bFld (l : List CCl) (f : Str) (A : BE K) : BE K where
  t := fun W => tFldC K l f (A.t W)
  w := fun ρ ω Φ Ψ => A.w ρ ω (fun x ω1 => refW x fun a => insW (ω1 a) fun c fs => hasF l c f = true ∧ optW (fs.lookup f) fun d => Φ d ω1) Ψ
  ok := fun W ρ z σ Q Φ Ψ h k r q qx => by
    refine A.ok W ρ z σ _ _ Ψ h k r (fun v z1 x t1 r1 h1 => ?_) qx
    obtain ⟨a, rfl, h1⟩ := refW_iff.mp h1
    obtain ⟨c, fs, e, hf, h1⟩ := insW_iff.mp h1
    obtain ⟨d, ed, h1⟩ := optW_iff.mp h1
    cases r1
    obtain ⟨_, dx, vs, g1, g2⟩ := t1.ok.cell _ _ e
    rcases repK_look f g2 with ⟨_, z0⟩ | ⟨v, d', e1, e2, rv⟩
    · rw [ed] at z0; cases z0
    · rw [ed] at e2
      cases e2
      exact ⟨a, c, dx, vs, v, rfl, g1, hf, e1, q v z1 d t1 rv h1⟩
/-! ### e.f = v -/
def sFldC (K : Fg) (l : List CCl) (f : Str) (ta tv : TE) : TS := fun D σ H => tv σ H fun y H1 => ta σ H1 fun x H2 => ∃ a c dx fs, x = .ref a ∧ H2 a = some (.ins (He.ga K c) dx fs) ∧ hasF l c f = true ∧ fs.length < 1000 ∧
  D.nx σ (upd H2 a (.ins (He.ga K c) dx (putF f y fs)))
def bsFld (l : List CCl) (f : Str) (A V' : BE K) : BS K where
  t := fun W => sFldC K l f (A.t W) (V'.t W)
  w := fun ρ ω k => V'.w ρ ω (fun d ω1 => A.w ρ ω1 (fun x ω2 => refW x fun a => insW (ω2 a) fun c fs => hasF l c f = true ∧ fs.length < 1000 ∧ k.nx ρ (ω2.set a (.ins c (putFD f d fs)))) fun x ω1 => k.xc x ρ ω1) fun x ω1 => k.xc x ρ ω1
  ok := fun W ρ z σ D' k h ok r hk => by
    refine V'.ok W ρ z σ _ _ _ h ok r (fun vv z1 d t1 r1 h1 => ?_) (hk.qx r)
    refine A.ok W ρ z1 σ _ _ _ h1 t1.ok (r.mono t1.ex) (fun vx z2 x t2 r2 h2 => ?_) ((hk.to t1).qx (r.mono t1.ex))
    have t12 := t1.trans t2
    obtain ⟨a, rfl, h2⟩ := refW_iff.mp h2
    obtain ⟨c, fs, e, hf, hl, h2⟩ := insW_iff.mp h2
    cases r2
    obtain ⟨_, dx, vs, g1, g2⟩ := t2.ok.cell _ _ e
    have t := t2.ok.put (o := .ins (He.ga K c) dx (putF f vv vs)) (c' := .ins c (putFD f d fs)) e ⟨dx, _, upd_same, repK_putF (r1.mono t2.ex) g2⟩
    exact ⟨a, c, dx, vs, rfl, g1, hf, by rw [repK_len g2]; exact hl, hk.nx σ ρ _ (t12.trans t) (r.mono (t12.trans t).ex) h2⟩
/-! ### e.m(..) -/
/-- what may be called: a class, its contract, the defaults that fill up -/
structure MT (K : Fg) where
  c : Str
  W : WPX
  vs : List V
  ds : List D
  hd : ∀ H, RepL K H vs ds
def tMethC (K : Fg) (tab : List (MT K)) (m : Str) (E : L2.St → XK) (ta : TE) (t : TA) : TE := fun σ H Q => ta σ H fun x H1 => ∃ a e dx fs, e ∈ tab ∧ x = .ref a ∧ H1 a = some (.ins (He.ga K e.c) dx fs) ∧ fs.lookup m = none ∧
  t σ H1 fun vs H2 => SpPX K e.W (x :: (vs ++ e.vs)) H2 Q (E σ)
def tabW (tab : List (MT K)) (c : Str) (F : MT K → Prop) : Prop := match tab with
  | [] => False
  | e :: r => (c = e.c ∧ F e) ∨ (c ≠ e.c ∧ tabW r c F)
theorem tabW_ex : ∀ {tab : List (MT K)} {c : Str} {F : MT K → Prop}, tabW tab c F → ∃ e, e ∈ tab ∧ c = e.c ∧ F e
  | e :: r, c, F, .inl ⟨h1, h2⟩ => ⟨e, List.mem_cons_self, h1, h2⟩
  | e :: r, c, F, .inr ⟨_, h⟩ => let ⟨x, h1, h2⟩ := tabW_ex h; ⟨x, List.mem_cons_of_mem _ h1, h2⟩
def bMeth (tab : List (MT K)) (m : Str) (A : BE K) (As : BA K) : BE K where
  t := fun V => tMethC K tab m (WE V) (A.t V) (As.t V)
  w := fun ρ ω Φ Ψ => A.w ρ ω (fun x ω1 => refW x fun a => insW (ω1 a) fun c fs => fs.lookup m = none ∧ tabW tab c fun e => As.w ρ ω1 (fun ds ω2 => e.W (.ref a :: (ds ++ e.ds)) ω2 Φ Ψ) Ψ) Ψ
  ok := fun W ρ z σ Q Φ Ψ h k r q qx => by
    refine A.ok W ρ z σ _ _ Ψ h k r (fun v z1 x t1 r1 h1 => ?_) qx
    obtain ⟨a, rfl, h1⟩ := refW_iff.mp h1
    obtain ⟨c, fs, e, hl, h1⟩ := insW_iff.mp h1
    obtain ⟨en, he, rfl, h3⟩ := tabW_ex h1
    cases r1
    obtain ⟨_, dx, vs, g1, g2⟩ := t1.ok.cell _ _ e
    have hl2 : vs.lookup m = none := by
      rcases repK_look m g2 with ⟨z0, _⟩ | ⟨_, _, _, z0, _⟩
      · exact z0
      · rw [hl] at z0; cases z0
    refine ⟨a, en, dx, vs, he, rfl, g1, hl2, ?_⟩
    refine As.ok W ρ z1 σ _ _ Ψ h3 t1.ok (r.mono t1.ex) (fun xs z2 es t2 r2 h2 => ?_) fun x cls d z2 t2 => qx x cls d z2 (t1.trans t2)
    have t12 := t1.trans t2
    exact ⟨z2, _, Φ, Ψ, rfl, t2.ok, .cons (.ref a) (r2.append (en.hd _)), h2, fun v z3 d t3 => q v z3 d (t12.trans t3), fun x cls d z3 t3 => qx x cls d z3 (t12.trans t3)⟩
/-! ### C(..) -/
def bMake (c : Str) (W : WP) (vs : List V) (ds : List D) (hd : ∀ H, RepL K H vs ds) (As : BA K) : BE K where
  t := fun V => tMake (He.ga K c) (SpP K W) vs E0 (As.t V)
  w := fun ρ ω Φ Ψ => As.w ρ ω (fun xs ω1 => ∀ a, ω1 a = none → W (.ref a :: (xs ++ ds)) (ω1.set a (.ins c [])) fun d ω2 => d = .non ∧ Φ (.ref a) ω2) Ψ
  ok := fun V ρ z σ Q Φ Ψ h k r q qx => by
    refine As.ok V ρ z σ _ _ Ψ h k r (fun xs z1 es t1 r1 h1 => fun x dx hx hdx hne => ?_) qx
    have n1 : NT (.own x) := fun _ w => by cases w
    have t2 : To K z1 ⟨z1.d, upd z1.h dx (.own x), z1.o, z1.t⟩ := by
      obtain ⟨hd0, ho⟩ := t1.ok.free hdx
      refine ⟨⟨fun a u e => (upd_ne (ne_of_none (t1.ok.fz a u e) hdx)).trans (t1.ok.fz a u e), fun a c' e => ?_, tabs_new t1.ok.tab hdx, t1.ok.tk, t1.ok.nd⟩, .refl _, fun a u e _ _ => (upd_ne (ne_of_none e hdx)).trans e, upd_kept, rfl, fun a e => .inl e, fun a e => .inl e⟩
      obtain ⟨c1, c2⟩ := t1.ok.cell a c' e
      exact ⟨c1, c2.mono (.refl _) fun u e => (upd_ne (ne_of_none e hdx)).trans e⟩
    have hx2 : upd z1.h dx (.own x) x = none := (upd_ne (Ne.symm hne)).trans hx
    have t3 := t2.ok.lay (o := .ins (He.ga K c) dx []) (c := .ins c []) hx2 ⟨dx, [], upd_same, .nil⟩
    have t23 := t2.trans t3
    have ho : z1.o x = none := (t1.ok.free hx).2
    refine ⟨_, _, _, rfl, t3.ok, .cons (.ref x) ((r1.mono t23.ex).append (hd _)), h1 x ho, fun v z4 d t4 r4 h4 => ?_⟩
    obtain ⟨rfl, h4⟩ := h4
    cases r4
    exact ⟨rfl, q (.ref x) z4 (.ref x) (t1.trans (t23.trans t4)) (.ref x) h4⟩
end
/-! ### defs with defaults -/
section
variable {P : Program} {w : World} {K : Fg} {mg : Str → Option Value} {base : Heap}
/-- a def that does not raise, of defaults dvs -/
def OkC (P : Program) (w : World) (K : Fg) (mg : Str → Option Value) (base : Heap) (k : Nat) (p : Str × Option Str) (ps : List Str) (dvs : List V) (W : WP) : Prop :=
  ∃ fd, FnOk P w K mg base CX0 k (He.fAd K p) fd ps (SpP K W) ∧ ∀ j, j ≤ dvs.length → ∃ us, Vals (dvs.drop j) us ∧ Binds K fd ps us
/-- a def that may raise -/
def OkM (n : Bool) (P : Program) (w : World) (K : Fg) (mg : Str → Option Value) (base : Heap) (k : Nat) (p : Str × Option Str) (ps : List Str) (dvs : List V) (W : WPX) : Prop :=
  ∃ fd, FnOk P w K mg base (CXk n P w) k (He.fAd K p) fd ps (SpPX K W) ∧ ∀ j, j ≤ dvs.length → ∃ us, Vals (dvs.drop j) us ∧ Binds K fd ps us
/-- a contract without exceptions -/
abbrev wX (W : WP) : WPX := fun ds ω Φ _ => W ds ω Φ
theorem fnOk_cx {CX CX' : CXT} {k : Nat} {f : Addr} {fd : FuncData} {ps : List Str} {sp sp' : Sp} (F : FnOk P w K mg base CX k f fd ps sp) (h : ∀ vs H Q E, sp' vs H Q E → sp vs H Q E) (hc : ∀ l H s E e s', CX l H s E e s' → CX' l H s E e s') : FnOk P w K mg base CX' k f fd ps sp' :=
  ⟨fun vs H Q E q => F.len vs H Q E (h _ _ _ _ q), fun A outer s H args us vs Q E hr he hb hv hs => codeAny_mono (F.run A outer s H args us vs Q E hr he hb hv (h _ _ _ _ hs)) fun r s' hq => by
    cases r with
    | error e => exact hc _ _ _ _ _ _ hq
    | ok fl => cases fl <;> exact hq⟩
theorem OkC.toM {n : Bool} {k : Nat} {p : Str × Option Str} {ps : List Str} {dvs : List V} {W : WP} (h : OkC P w K mg base k p ps dvs W) : OkM n P w K mg base k p ps dvs (wX W) := by
  obtain ⟨fd, F, b⟩ := h
  refine ⟨fd, fnOk_cx F (fun vs H Q E hs => ?_) (fun _ _ _ _ _ _ z => z.elim), b⟩
  obtain ⟨z, ds, Φ, Ψ, e, ok, r, hW, q, _⟩ := hs
  exact ⟨z, ds, Φ, e, ok, r, hW, q⟩
theorem OkP.toC {k : Nat} {p : Str × Option Str} {ps : List Str} {W : WP} (h : OkP P w K mg base k p ps W) : OkC P w K mg base k p ps [] W := by
  obtain ⟨fd, F, b, _⟩ := h
  exact ⟨fd, F, fun j _ => ⟨[], by rw [List.drop_nil]; exact .nil, b⟩⟩
theorem OkPX.toM {n : Bool} {k : Nat} {p : Str × Option Str} {ps : List Str} {W : WPX} (h : OkPX n P w K mg base k p ps W) : OkM n P w K mg base k p ps [] W := by
  obtain ⟨fd, F, b, _⟩ := h
  exact ⟨fd, F, fun j _ => ⟨[], by rw [List.drop_nil]; exact .nil, b⟩⟩
/-- a def with defaults: how it binds where those behind the first j fill up -/
abbrev BindsJ (name qual : Str) (st : Stmt) (ps : List Str) (dvs : List V) : Prop := ∀ j, j ≤ dvs.length → ∀ (T : Addr) (kV doc pm : Value) (an : Option Addr) (cdv ct : Value) (us its : List Value), us.length = ps.length - (dvs.length - j) → its.length = dvs.length →
  ∃ k, bindArgs (PySem.W.fnOf name qual (defArgs st) (defBody st) (defScope st) (.ref T) kV doc pm an cdv ct) ⟨us, []⟩ = seqItems? (.ref T) >>= k ∧ k (some its.toArray) = pure (ps.zip (us ++ its.drop j))
theorem fnPC {name qual : Str} {st : Stmt} {p : Str × Option Str} {N ps : List Str} {k : Nat} {dvs : List V} (F : FnD K name qual st dvs p) (hd : dvs ≠ []) (hdl : dvs.length ≤ ps.length) (S : FnScope N ps (defScope st)) {W : WP} {n : Nat} (hn : N.length = n) (B : BS K)
    (hbi : BindsJ name qual st ps dvs)
    (len : ∀ ds ω Φ, W ds ω Φ → ds.length = ps.length)
    (hb : ∀ (f : Addr) (cdv : Value) (A : Around) (outer : List Env) (s : Shared) (H : Hp) (E : XK), Room k (A.deeper (PyProof.Rows.envOfC qual (defScope st) s.heap.objs.size f cdv)) → PSs (cxOf CX0 P w K mg base N qual (defScope st) f cdv A outer s H E).nox (defBody st) (B.t W0))
    (hw : ∀ ds ω Φ, W ds ω Φ → B.w (startD n ds) ω ⟨fun _ ω => Φ .non ω, Φ, fun _ _ => False, fun _ _ => False, fun _ _ _ => False⟩) : OkC P w K mg base (k + 1) p ps dvs W := by
  obtain ⟨fd, F⟩ := F
  refine ⟨fd, F.ok S (fun vs H Q E h => ?_) (fun cdv A outer s H vs Q E hr h => ⟨B.t W0, PSs.nox (hb _ cdv A outer s H E hr), ?_⟩), fun j hj => F.binds1 (ps.length - (dvs.length - j)) j hd (by omega) (hbi j hj)⟩
  · obtain ⟨z, ds, Φ, _, _, r, hW, _⟩ := h
    rw [r.length]
    exact len ds _ _ hW
  · obtain ⟨z, ds, Φ, rfl, ok, r, hW, q⟩ := h
    subst hn
    exact B.ok W0 (startD N.length ds) z (L2.start N vs) _ _ (hw ds z.o Φ hW) ok (rep_start r) ⟨fun σ2 ρ2 z2 t _ h2 => q .non z2 .non t .non h2, fun v d z2 t r2 h2 => q v z2 d t r2 h2, fun _ _ _ _ _ h => h.elim, fun _ _ _ _ _ h => h.elim, fun _ _ _ _ _ _ _ _ _ h => h.elim⟩
theorem fnPM (n : Bool) {name qual : Str} {st : Stmt} {p : Str × Option Str} {N ps : List Str} {k : Nat} {dvs : List V} (F : FnD K name qual st dvs p) (hd : dvs ≠ []) (hdl : dvs.length ≤ ps.length) (S : FnScope N ps (defScope st)) {W : WPX} {l : Nat} (hn : N.length = l) (B : BS K)
    (hbi : BindsJ name qual st ps dvs)
    (len : ∀ ds ω Φ Ψ, W ds ω Φ Ψ → ds.length = ps.length)
    (hb : ∀ (f : Addr) (cdv : Value) (A : Around) (outer : List Env) (s : Shared) (H : Hp) (E : XK), Room k (A.deeper (PyProof.Rows.envOfC qual (defScope st) s.heap.objs.size f cdv)) →
      TakesK n (cxOf (CXk n P w) P w K mg base N qual (defScope st) f cdv A outer s H E) (fun cls d _ H => E cls d H) →
      PassesOwn (model P w) (A.deeper (PyProof.Rows.envOfC qual (defScope st) s.heap.objs.size f cdv)) (PyProof.Rows.envOfC qual (defScope st) s.heap.objs.size f cdv) (cxOf (CXk n P w) P w K mg base N qual (defScope st) f cdv A outer s H E).xe →
      PSs (cxOf (CXk n P w) P w K mg base N qual (defScope st) f cdv A outer s H E) (defBody st) (B.t fun cls d _ H => E cls d H))
    (hw : ∀ ds ω Φ Ψ, W ds ω Φ Ψ → B.w (startD l ds) ω ⟨fun _ ω => Φ .non ω, Φ, fun _ _ => False, fun _ _ => False, fun x _ ω => Ψ x ω⟩) : OkM n P w K mg base (k + 1) p ps dvs W := by
  obtain ⟨fd, F⟩ := F
  have bi := fun j hj => F.binds1 (ps := ps) (ps.length - (dvs.length - j)) j hd (by omega) (hbi j hj)
  obtain ⟨oc, od, _, _, _, _, _, cdv, _, osl, rfl, lk, hcd, _⟩ := F.ex
  refine ⟨_, fn_of (CX := CXk n P w) lk hcd S (fun vs H Q E h => ?_) (fun A outer s H vs Q E hr h => ⟨B.t fun cls d _ H => E cls d H, hb _ cdv A outer s H E hr ?_ ?_, ?_⟩), bi⟩
  · obtain ⟨z, ds, Φ, Ψ, _, _, r, hW, _⟩ := h
    rw [r.length]
    exact len ds _ _ _ hW
  · cases n with
    | true => exact L2N.takes_of rfl rfl rfl rfl
    | false => exact L2.takes_of rfl rfl rfl rfl
  · exact PassesOwn.leaving
  · obtain ⟨z, ds, Φ, Ψ, rfl, ok, r, hW, q, qx⟩ := h
    subst hn
    exact B.ok _ (startD N.length ds) z (L2.start N vs) _ _ (hw ds z.o Φ Ψ hW) ok (rep_start r) ⟨fun σ2 ρ2 z2 t _ h2 => q .non z2 .non t .non h2, fun v d z2 t r2 h2 => q v z2 d t r2 h2, fun _ _ _ _ _ h => h.elim, fun _ _ _ _ _ h => h.elim, fun x cls d σ2 ρ2 z2 t _ rx h2 => qx x cls d z2 t rx h2⟩
end
/-! ### rules -/
section
variable {X : Cx} {W : WX} {x m f : Str} {e o value : Expr} {es : List Expr} {A V' : BE X.K} {As : BA X.K} {p pos pos' apos : Pos} {n mm : Bool} {l : List CCl}
theorem P_fld (F : XCl X.K l) (he : PE X e (A.t W)) (hb : attributeBase e f X.env (eval e X.env) = eval e X.env := by rfl) : PE X (.Attribute e f pos) ((bFld l f A).t W) := by
  refine ⟨fun pins s σ H Q I h => ?_⟩
  refine attr_of hb (thn (he.run pins s σ H _ I h) fun u s1 ⟨x, H1, I1, rx, a, c, dx, fs, v, ex, ea, hf, lk, q⟩ => ?_)
  subst ex
  obtain rfl : u = Value.ref a := rx
  obtain ⟨c1, c2⟩ := F.fld hf
  exact getattr_ok I1 ea c1 c2 lk fun u' s2 I2 ru => ⟨v, H1, I2, ru, q⟩
theorem S_fld (F : XCl X.K l) (ha : PE X o (A.t W)) (hv : PE X value (V'.t W)) (hs : swapsWith value (some (.Attribute o f pos')) pos.line X.env = pure false := by rfl) : PS X (.Assign [.Attribute o f pos'] value pos) ((bsFld l f A V').t W) := by
  refine ⟨fun pins s σ H D I h => ?_⟩
  refine plainObj_wpAny_Assign_Attribute (thn (hv.run pins s σ H _ I h) fun u s1 ⟨y, H1, I1, ry, q⟩ => thn (ha.run pins s1 σ H1 _ I1 q) fun ov s2 ⟨x, H2, I2, rx, a, c, dx, fs, ex, ea, hf, lk, q2⟩ => ?_) hs
  subst ex
  obtain rfl : ov = Value.ref a := rx
  obtain ⟨c1, c2⟩ := F.fld hf
  exact setattr_ok I2 ea c1 c2 lk ry fun s3 I3 => ⟨σ, _, I3, q2⟩
/-- the table of a call: each row's method keeps its contract -/
inductive MOk (X : Cx) (l : List CCl) (n : Bool) (m : Str) : List (MT X.K) → Prop
  | nil : MOk X l n m []
  | cons {c d : Str} {W : WPX} {dvs : List V} {ds : List D} {j k : Nat} {ps : List Str} {mm : Bool} {hd : ∀ H, RepL X.K H (dvs.drop j) ds} {tab : List (MT X.K)} : hasM l c m d = true → OkM mm X.prog X.w X.K X.mg X.base k (d, some m) ps dvs W → Room k X.A → j ≤ dvs.length → (n = true → mm = true) → MOk X l n m tab → MOk X l n m (⟨c, W, dvs.drop j, ds, hd⟩ :: tab)
theorem MOk.at_ {tab : List (MT X.K)} (h : MOk X l n m tab) : ∀ e ∈ tab, ∃ (d : Str) (k : Nat) (ps : List Str) (fd : FuncData) (us : List Value) (mm : Bool), hasM l e.c m d = true ∧ FnOk X.prog X.w X.K X.mg X.base (CXk mm X.prog X.w) k (He.fAd X.K (d, some m)) fd ps (SpPX X.K e.W) ∧ Room k X.A ∧ Vals e.vs us ∧ Binds X.K fd ps us ∧ (n = true → mm = true) := by
  induction h with
  | nil => intro e h; cases h
  | cons h1 h2 h3 h4 h5 _ ih =>
    intro e he
    rcases List.mem_cons.mp he with rfl | he
    · obtain ⟨fd, F, b⟩ := h2
      obtain ⟨us, b1, b2⟩ := b _ h4
      exact ⟨_, _, _, fd, us, _, h1, F, h3, b1, b2, h5⟩
    · exact ih e he
theorem P_meth {tab : List (MT X.K)} {pl : Sem Bool} (F : XCl X.K l) (hm : MOk X l n m tab) (tk : TakesK n X W) (he : PE X o (A.t W)) (ha : PA X (e :: es) (As.t W))
    (hst : starEach (e :: es) X.env = (false, eval e X.env) :: starEach es X.env := by rfl) (hpl : (backTo pos (starEach es X.env)).any (·.1) = false := by rfl)
    (ht : eval (.Call (.Attribute o m apos) (e :: es) [] pos) X.env = (do
      let ov ← eval o X.env
      standAt apos.atName
      let (f, first) ← holding [ov] (getMethod ov m pl)
      callWith pos f first (backTo pos (starEach (e :: es) X.env)) (backToKw pos (keywordEach [] X.env))) := by rfl) :
    PE X (.Call (.Attribute o m apos) (e :: es) [] pos) ((bMeth tab m A As).t W) := by
  refine ⟨fun pins s σ H Q I h => ?_⟩
  refine PySem.W.methodCall_KW (pl := pl) (thn (he.run pins s σ H _ I h) fun u s1 ⟨x, H1, I1, rx, a, en, dx, fs, hen, ex, ea, lk, q⟩ => ?_) ht
  subst ex
  obtain rfl : u = Value.ref a := rx
  obtain ⟨d, k, ps, fd, us0, mm, g1, g2, g3, g4, g5, g6⟩ := hm.at_ en hen
  obtain ⟨c1, c2⟩ := F.meth g1
  refine getmeth_ok I1 ea c1 c2 lk ?_
  refine PySem.W.callWith_K (first := [.ref a]) (h₀ := X.base) I.ok.mod.kin c2.kp (thn (ha.run pos pins s1 σ H1 _ I1 q) fun us s2 ⟨vs, H2, I2, r, q2⟩ => ⟨I2.kIn, ?_⟩) hst hpl
  exact run_fnSD (us := .ref a :: us) (vs := .ref a :: vs) g2 g3 g5 g4 (passK g6 tk σ) I2 (.cons rfl r) q2
theorem P_meth0 {tab : List (MT X.K)} {pl : Sem Bool} (F : XCl X.K l) (hm : MOk X l n m tab) (tk : TakesK n X W) (he : PE X o (A.t W))
    (ht : eval (.Call (.Attribute o m apos) [] [] pos) X.env = (do
      let ov ← eval o X.env
      standAt apos.atName
      let (f, first) ← holding [ov] (getMethod ov m pl)
      callWith pos f first (backTo pos (starEach [] X.env)) (backToKw pos (keywordEach [] X.env))) := by rfl) :
    PE X (.Call (.Attribute o m apos) [] [] pos) ((bMeth tab m A baN).t W) := by
  refine ⟨fun pins s σ H Q I h => ?_⟩
  refine PySem.W.methodCall_KW (pl := pl) (thn (he.run pins s σ H _ I h) fun u s1 ⟨x, H1, I1, rx, a, en, dx, fs, hen, ex, ea, lk, q⟩ => ?_) ht
  subst ex
  obtain rfl : u = Value.ref a := rx
  obtain ⟨d, k, ps, fd, us0, mm, g1, g2, g3, g4, g5, g6⟩ := hm.at_ en hen
  obtain ⟨c1, c2⟩ := F.meth g1
  refine getmeth_ok I1 ea c1 c2 lk ?_
  have q : SpPX X.K en.W (.ref a :: ([] ++ en.vs)) H1 Q (WE W σ) := q
  exact PySem.W.callWith_K0 (first := [.ref a]) I1.kIn c2.kp (run_fnSD (us := [.ref a]) (vs := [.ref a]) g2 g3 g5 g4 (passK g6 tk σ) I1 (.cons rfl .nil) q)
theorem P_make {c : Str} {k j : Nat} {ps : List Str} {Wf : WP} {dvs : List V} {ds : List D} {hd : ∀ H, RepL X.K H (dvs.drop j) ds} (F : XCl X.K l) (hc : hasM l c "__init__" c = true) (O : OkC X.prog X.w X.K X.mg X.base k (c, some "__init__") ps dvs Wf) (hj : j ≤ dvs.length) (hr : Room (k + 1) X.A)
    (hm : X.mg c = some (.ref (He.ga X.K c))) (ha : PA X (e :: es) (As.t W)) (hg : Gl X c := by rfl) (hdb : (c == ("__debug__" : Str)) = false := by decide) (he : starEach (e :: es) X.env = (false, eval e X.env) :: starEach es X.env := by rfl) (hpl : (backTo pos (starEach es X.env)).any (·.1) = false := by rfl) :
    PE X (.Call (.Name c p) (e :: es) [] pos) ((bMake c Wf (dvs.drop j) ds hd As).t W) := by
  obtain ⟨fd, F1, b⟩ := O
  obtain ⟨us, b1, b2⟩ := b j hj
  exact pe_make (F.making hc) F1 hr hg hm b2 b1 pass0 ha hdb he hpl
theorem P_make0 {c : Str} {k j : Nat} {ps : List Str} {Wf : WP} {dvs : List V} {ds : List D} {hd : ∀ H, RepL X.K H (dvs.drop j) ds} (F : XCl X.K l) (hc : hasM l c "__init__" c = true) (O : OkC X.prog X.w X.K X.mg X.base k (c, some "__init__") ps dvs Wf) (hj : j ≤ dvs.length) (hr : Room (k + 1) X.A)
    (hm : X.mg c = some (.ref (He.ga X.K c))) (hg : Gl X c := by rfl) (hdb : (c == ("__debug__" : Str)) = false := by decide) :
    PE X (.Call (.Name c p) [] [] pos) ((bMake c Wf (dvs.drop j) ds hd baN).t W) := by
  obtain ⟨fd, F1, b⟩ := O
  obtain ⟨us, b1, b2⟩ := b j hj
  exact pe_make0 (F.making hc) F1 hr hg hm b2 b1 pass0 hdb
end
end T

/-! More of dicts: get, setdefault, pop, copies, keys, values, items, len; read while no one writes; sorted of texts. -/
namespace T
open PySem PyProof.Rows L2
section
variable {K : Fg}
def kvW (d : D) (ω : Om) (F : Addr → List (Key × D) → Prop) : Prop := refW d fun a => optW (dkOf (ω a)) fun kvs => F a kvs
theorem kvW_ok {z : Z} (k : z.Ok K) {v : V} {x : D} {F : Addr → List (Key × D) → Prop} (r : Rep K z.d v x) (h : kvW x z.o F) : ∃ a xs kvs, v = .ref a ∧ x = .ref a ∧ Rd z.h a (.dK xs) ∧ RepK K z.d xs kvs ∧ F a kvs := by
  obtain ⟨a, rfl, h⟩ := refW_iff.mp h
  obtain ⟨kvs, h1, h⟩ := optW_iff.mp h
  cases r
  obtain ⟨xs, g1, g2⟩ := dkOf_ok k h1
  exact ⟨a, xs, kvs, rfl, rfl, g1, g2, h⟩
/-- d[k], with a key that is no tuple -/
def dg1W (x y : D) (ω : Om) (F : Option D → Prop) : Prop := kvW x ω fun _ kvs => optW (keyD y) fun k => F (valD kvs k)
/-- o.get(y, x) -/
def bDget2 (o y x : BE K) : BE K where
  t := fun W => tDGet2 (o.t W) (y.t W) (x.t W)
  w := fun ρ ω Φ Ψ => o.w ρ ω (fun d ω1 => kvW d ω1 fun _ _ => y.w ρ ω1 (fun e ω2 => x.w ρ ω2 (fun f ω3 => dg1W d e ω3 fun r => Φ (r.getD f) ω3) Ψ) Ψ) Ψ
  ok := fun W ρ z σ Q Φ Ψ h k r q qx => by
    refine o.ok W ρ z σ _ _ Ψ h k r (fun v z1 d t1 r1 h1 => ?_) qx
    obtain ⟨a, xs, kvs, rfl, rfl, g1, _, h1⟩ := kvW_ok t1.ok r1 h1
    refine ⟨a, rfl, .inl ⟨xs, g1⟩, ?_⟩
    refine y.ok W ρ z1 σ _ _ Ψ h1 t1.ok (r.mono t1.ex) (fun u z2 e t2 r2 h2 => ?_) fun x cls d z2 t2 => qx x cls d z2 (t1.trans t2)
    have t12 := t1.trans t2
    refine x.ok W ρ z2 σ _ _ Ψ h2 t2.ok (r.mono t12.ex) (fun f z3 f' t3 r3 h3 => ?_) fun x cls d z2 t2 => qx x cls d z2 (t12.trans t2)
    have t13 := t12.trans t3
    obtain ⟨a', ys, kvs', e1, e2, g3, g4, h3⟩ := kvW_ok t3.ok (.ref a) h3
    cases e1
    obtain ⟨kk, hk, h3⟩ := optW_iff.mp h3
    refine ⟨valV ys kk, .inl ⟨ys, kk, g3, keyD_ok (r2.mono t3.ex) hk, rfl⟩, ?_⟩
    rcases repK_val kk g4 with ⟨e3, e4⟩ | ⟨w, d', e3, e4, rw'⟩
    · rw [e4] at h3
      rw [e3]
      exact q _ z3 _ t13 r3 h3
    · rw [e4] at h3
      rw [e3]
      exact q _ z3 _ t13 rw' h3
/-- o.setdefault(y, x) -/
def bDsetd (o y x : BE K) : BE K where
  t := fun W => tDSetd (o.t W) (y.t W) (x.t W)
  w := fun ρ ω Φ Ψ => o.w ρ ω (fun d ω1 => kvW d ω1 fun a _ => y.w ρ ω1 (fun e ω2 => x.w ρ ω2 (fun f ω3 => cK (ω3 a) fun kvs => optW (keyD e) fun k => NeedW (kvs.length < 16777216) (match valD kvs k with
    | some g => Φ g ω3
    | none => Φ f (ω3.set a (.dk (putD kvs k f))))) Ψ) Ψ) Ψ
  ok := fun W ρ z σ Q Φ Ψ h k r q qx => by
    refine o.ok W ρ z σ _ _ Ψ h k r (fun v z1 d t1 r1 h1 => ?_) qx
    obtain ⟨a, xs, kvs, rfl, rfl, g1, _, h1⟩ := kvW_ok t1.ok r1 h1
    refine ⟨a, rfl, .inl ⟨xs, g1⟩, ?_⟩
    refine y.ok W ρ z1 σ _ _ Ψ h1 t1.ok (r.mono t1.ex) (fun u z2 e t2 r2 h2 => ?_) fun x cls d z2 t2 => qx x cls d z2 (t1.trans t2)
    have t12 := t1.trans t2
    refine x.ok W ρ z2 σ _ _ Ψ h2 t2.ok (r.mono t12.ex) (fun f z3 f' t3 r3 h3 => ?_) fun x cls d z2 t2 => qx x cls d z2 (t12.trans t2)
    have t13 := t12.trans t3
    obtain ⟨kvs', hc, h3⟩ := cK_iff.mp h3
    obtain ⟨kk, hk, hl, h3⟩ := optW_iff.mp h3
    obtain ⟨_, ys, g3, g4⟩ := t3.ok.cell _ _ hc
    refine ⟨ys, kk, g3, keyD_ok (r2.mono t3.ex) hk, by rw [repK_len g4, sizeLine_eq]; exact hl, fun v hv => ?_, fun hv => ?_⟩
    · rcases repK_val kk g4 with ⟨e3, e4⟩ | ⟨w, d', e3, e4, rw'⟩
      · rw [hv] at e3; cases e3
      · rw [hv] at e3
        cases e3
        rw [e4] at h3
        exact q _ z3 _ t13 rw' h3
    · rcases repK_val kk g4 with ⟨e3, e4⟩ | ⟨w, d', e3, e4, rw'⟩
      · rw [e4] at h3
        have t := t3.ok.put (o := .dK (putK ys kk f)) (c' := .dk (putD kvs' kk f')) hc ⟨_, upd_same, repK_put r3 g4⟩
        exact q _ _ _ (t13.trans t) (r3.mono t.ex) h3
      · rw [hv] at e3; cases e3
theorem repK_drop (kk : Key) {H : Hp} : ∀ {xs : List (Key × V)} {ds : List (Key × D)}, RepK K H xs ds → RepK K H (dropK xs kk) (dropD ds kk)
  | _, _, .nil => .nil
  | _, _, .cons (a := p) (b := q) h r => by
    unfold dropK dropD
    rw [List.filter_cons, List.filter_cons]
    by_cases e : q.1 = kk
    · have e1 : p.1 = kk := h.1.trans e
      rw [if_neg (by simp [e1]), if_neg (by simp [e])]
      exact repK_drop kk r
    · have e1 : p.1 ≠ kk := fun z => e (h.1.symm.trans z)
      rw [if_pos (by simp [e1]), if_pos (by simp [e])]
      exact .cons h (repK_drop kk r)
/-- o.pop(y), there -/
def bDpop (o y : BE K) : BE K where
  t := fun W => tDPop1 (o.t W) (y.t W)
  w := fun ρ ω Φ Ψ => o.w ρ ω (fun d ω1 => kvW d ω1 fun a _ => y.w ρ ω1 (fun e ω2 => cK (ω2 a) fun kvs => optW (keyD e) fun k => optW (valD kvs k) fun g => Φ g (ω2.set a (.dk (dropD kvs k)))) Ψ) Ψ
  ok := fun W ρ z σ Q Φ Ψ h k r q qx => by
    refine o.ok W ρ z σ _ _ Ψ h k r (fun v z1 d t1 r1 h1 => ?_) qx
    obtain ⟨a, xs, kvs, rfl, rfl, g1, _, h1⟩ := kvW_ok t1.ok r1 h1
    refine ⟨a, rfl, .inl ⟨xs, g1⟩, ?_⟩
    refine y.ok W ρ z1 σ _ _ Ψ h1 t1.ok (r.mono t1.ex) (fun u z2 e t2 r2 h2 => ?_) fun x cls d z2 t2 => qx x cls d z2 (t1.trans t2)
    have t12 := t1.trans t2
    obtain ⟨kvs', hc, h2⟩ := cK_iff.mp h2
    obtain ⟨kk, hk, h2⟩ := optW_iff.mp h2
    obtain ⟨g, hg, h2⟩ := optW_iff.mp h2
    obtain ⟨_, ys, g3, g4⟩ := t2.ok.cell _ _ hc
    rcases repK_val kk g4 with ⟨e3, e4⟩ | ⟨w, d', e3, e4, rw'⟩
    · rw [hg] at e4; cases e4
    · rw [hg] at e4
      cases e4
      have t := t2.ok.put (o := .dK (dropK ys kk)) (c' := .dk (dropD kvs' kk)) hc ⟨_, upd_same, repK_drop kk g4⟩
      exact ⟨ys, kk, w, g3, keyD_ok r2 hk, e3, q _ _ _ (t12.trans t) (rw'.mono t.ex) h2⟩
/-- dict(d) -/
def cDictC : CB K where
  r := fun xs H Q => ∃ (a : Addr) (kvs : List (Key × V)), xs = [.ref a] ∧ Rd H a (.dK kvs) ∧ ∀ p, H p = none → Q (.ref p) (upd H p (.dK kvs))
  w := fun ds ω Φ => match ds with
    | [d] => kvW d ω fun _ kvs => ∀ p, ω p = none → Φ (.ref p) (ω.set p (.dk kvs))
    | _ => False
  ok := fun z xs ds Q Φ h k r q => by
    split at h
    · obtain ⟨x, rfl, r1⟩ := rep1 r
      obtain ⟨a, ys, kvs, rfl, _, g1, g2, h⟩ := kvW_ok k r1 h
      refine ⟨a, ys, rfl, g1, fun p hp => ?_⟩
      have t := k.lay (o := .dK ys) (c := .dk kvs) hp ⟨_, upd_same, g2⟩
      exact q _ _ _ t (.ref p) (h p (k.free hp).2)
    · exact h.elim
/-- list(d): its keys -/
def cListK (own : Bool) : CB K where
  r := fun xs H Q => ∃ (a : Addr) (kvs : List (Key × V)), xs = [.ref a] ∧ Rd H a (.dK kvs) ∧ ∀ p, H p = none → Q (.ref p) (upd H p (.lst (kvs.map fun kv => kV kv.1)))
  w := fun ds ω Φ => match ds with
    | [d] => kvW d ω fun _ kvs => if own = true then ∀ p, ω p = none → Φ (.ref p) (ω.set p (.lst (kvs.map fun p => kD p.1))) else Φ (.lst (kvs.map fun p => kD p.1)) ω
    | _ => False
  ok := fun z xs ds Q Φ h k r q => by
    split at h
    · obtain ⟨x, rfl, r1⟩ := rep1 r
      obtain ⟨a, ys, kvs, rfl, _, g1, g2, h⟩ := kvW_ok k r1 h
      refine ⟨a, ys, rfl, g1, fun p hp => ?_⟩
      have e : ∀ {xs : List (Key × V)} {ds : List (Key × D)}, RepK K z.d xs ds → xs.map (fun kv => kV kv.1) = (ds.map (·.1)).map kV := by
        intro xs ds h
        induction h with
        | nil => rfl
        | cons h _ ih => rw [List.map_cons, List.map_cons, List.map_cons, ih, h.1]
      have e2 : kvs.map (fun p => kD p.1) = (kvs.map (·.1)).map kD := by rw [List.map_map]; rfl
      rw [e g2]
      rw [e2] at h
      cases own with
      | true =>
        rw [if_pos rfl] at h
        have t := k.lay (o := .lst ((kvs.map (·.1)).map kV)) (c := .lst ((kvs.map (·.1)).map kD)) hp ⟨_, upd_same, kDs_rep _⟩
        exact q _ _ _ t (.ref p) (h p (k.free hp).2)
      | false =>
        rw [if_neg Bool.false_ne_true] at h
        have t := k.add (o := .lst ((kvs.map (·.1)).map kV)) hp
        exact q _ _ _ t (.lst upd_same (kDs_rep _)) h
    · exact h.elim
/-- len(d) -/
def cLenK : CB K where
  r := fun xs H Q => ∃ a kvs, xs = [V.ref a] ∧ H a = some (.dK kvs) ∧ Q (.int kvs.length) H
  w := fun ds ω Φ => match ds with
    | [d] => refW d fun a => cK (ω a) fun kvs => Φ (.int kvs.length) ω
    | _ => False
  ok := fun z xs ds Q Φ h k r q => by
    split at h
    · obtain ⟨x, rfl, r1⟩ := rep1 r
      obtain ⟨a, rfl, h⟩ := refW_iff.mp h
      obtain ⟨kvs, hc, h⟩ := cK_iff.mp h
      cases r1
      obtain ⟨_, ys, g3, g4⟩ := k.cell _ _ hc
      refine ⟨a, ys, rfl, g3, ?_⟩
      rw [repK_len g4]
      exact q _ z _ k.to (.int _) h
    · exact h.elim
/-! ### read while no one writes -/
/-- e, while a dict stays as it is -/
def bLock (E : BE K) : BE K where
  t := fun W => tLockE (E.t W)
  w := fun ρ ω Φ Ψ => ∃ a kvs, ω a = some (.dk kvs) ∧ ∀ o xs, E.w ρ (ω.set a (.fk o xs kvs)) (fun e ω2 => ω2 a = some (.fk o xs kvs) ∧ Φ e (ω2.set a (.dk kvs))) fun _ _ => False
  ok := fun W ρ z σ Q Φ Ψ h k r q qx => by
    obtain ⟨a, kvs, hc, h⟩ := h
    obtain ⟨_, ys, g1, g2⟩ := k.cell _ _ hc
    refine ⟨a, .dK ys, g1, trivial, fun od => ?_⟩
    have t := k.put (o := .frz od (.dK ys)) (c' := .fk od ys kvs) hc ⟨upd_same, g2⟩
    refine E.ok W ρ _ σ _ _ (fun _ _ => False) (h od ys) t.ok r (fun v z2 d t2 r2 h2 => ?_) fun _ _ _ _ _ _ h => h.elim
    obtain ⟨h2, h3⟩ := h2
    obtain ⟨_, g3, g4⟩ := t2.ok.cell _ _ h2
    have t3 := t2.ok.put (o := .dK ys) (c' := .dk kvs) h2 ⟨_, upd_same, g4⟩
    exact ⟨g3, q v _ d (t.trans (t2.trans t3)) (r2.mono t3.ex) h3⟩
/-- a statement, while a dict stays as it is -/
def bsLock (S : BS K) : BS K where
  t := fun W => tLock (S.t W)
  w := fun ρ ω k => ∃ a kvs, ω a = some (.dk kvs) ∧ ∀ o xs, S.w ρ (ω.set a (.fk o xs kvs)) ⟨fun ρ1 ω2 => ω2 a = some (.fk o xs kvs) ∧ k.nx ρ1 (ω2.set a (.dk kvs)), fun d ω2 => ω2 a = some (.fk o xs kvs) ∧ k.rt d (ω2.set a (.dk kvs)), fun ρ1 ω2 => ω2 a = some (.fk o xs kvs) ∧ k.bk ρ1 (ω2.set a (.dk kvs)), fun ρ1 ω2 => ω2 a = some (.fk o xs kvs) ∧ k.ct ρ1 (ω2.set a (.dk kvs)), fun _ _ _ => False⟩
  ok := fun W ρ z σ D' k h ok r hk => by
    obtain ⟨a, kvs, hc, h⟩ := h
    obtain ⟨_, ys, g1, g2⟩ := ok.cell _ _ hc
    refine ⟨a, .dK ys, g1, trivial, fun od => ?_⟩
    have t := ok.put (o := .frz od (.dK ys)) (c' := .fk od ys kvs) hc ⟨upd_same, g2⟩
    have back : ∀ {z2 : Z}, To K ⟨z.d, upd z.h a (.frz od (.dK ys)), z.o.set a (.fk od ys kvs), z.t⟩ z2 → z2.o a = some (.fk od ys kvs) → z2.h a = some (.frz od (.dK ys)) ∧ To K z2 ⟨z2.d, upd z2.h a (.dK ys), z2.o.set a (.dk kvs), z2.t⟩ := fun {z2} t2 h2 => by
      obtain ⟨_, g3, g4⟩ := t2.ok.cell _ _ h2
      exact ⟨g3, t2.ok.put (o := .dK ys) (c' := .dk kvs) h2 ⟨_, upd_same, g4⟩⟩
    refine S.ok W ρ _ σ _ _ (h od ys) t.ok r ⟨fun σ2 ρ2 z2 t2 r2 h2 => ?_, fun v d z2 t2 r2 h2 => ?_, fun σ2 ρ2 z2 t2 r2 h2 => ?_, fun σ2 ρ2 z2 t2 r2 h2 => ?_, fun _ _ _ _ _ _ _ _ _ h => False.elim h⟩
    · obtain ⟨g3, t3⟩ := back t2 h2.1
      exact ⟨g3, hk.nx σ2 ρ2 _ (t.trans (t2.trans t3)) (r2.mono t3.ex) h2.2⟩
    · obtain ⟨g3, t3⟩ := back t2 h2.1
      exact ⟨g3, hk.rt v d _ (t.trans (t2.trans t3)) (r2.mono t3.ex) h2.2⟩
    · obtain ⟨g3, t3⟩ := back t2 h2.1
      exact ⟨g3, hk.bk σ2 ρ2 _ (t.trans (t2.trans t3)) (r2.mono t3.ex) h2.2⟩
    · obtain ⟨g3, t3⟩ := back t2 h2.1
      exact ⟨g3, hk.ct σ2 ρ2 _ (t.trans (t2.trans t3)) (r2.mono t3.ex) h2.2⟩
theorem it_vals (z : Z) (a : Addr) (o : Obj) (xs : List (Key × V)) (kvs : List (Key × D)) : ItOk K (Itd a o xs) z (kvs.map fun p => p.2) fun ω => ω a = some (.fk o xs kvs) where
  go := fun i z1 t hc hi => by
    obtain ⟨_, h1, h2⟩ := t.ok.cell _ _ hc
    have hl := repK_len h2
    rw [List.length_map] at hi
    refine ⟨⟨h1, by omega⟩, fun x H' ⟨e1, k, e2⟩ => ?_⟩
    obtain ⟨v', e4, rv⟩ := repK_get (i := i) h2 (List.getElem?_eq_getElem hi)
    rw [e2] at e4
    cases e4
    exact ⟨z1, kvs[i].2, t.ok.to, e1.symm, rfl, by rw [List.getElem?_map, List.getElem?_eq_getElem hi]; rfl, rv⟩
  stop := fun i z1 t hc hi => by
    obtain ⟨_, h1, h2⟩ := t.ok.cell _ _ hc
    rw [List.length_map] at hi
    exact ⟨h1, by rw [repK_len h2]; exact hi⟩
theorem it_items (z : Z) (a : Addr) (o : Obj) (xs : List (Key × V)) (kvs : List (Key × D)) : ItOk K (Iti a o xs) z (kvs.map fun p => .tup [kD p.1, p.2]) fun ω => ω a = some (.fk o xs kvs) where
  go := fun i z1 t hc hi => by
    obtain ⟨_, h1, h2⟩ := t.ok.cell _ _ hc
    have hl := repK_len h2
    rw [List.length_map] at hi
    refine ⟨⟨h1, by omega⟩, fun x H' ⟨T, k, v, e2, e3, e5, e6⟩ => ?_⟩
    obtain ⟨v', e4, rv⟩ := repK_get (i := i) h2 (List.getElem?_eq_getElem hi)
    rw [e2] at e4
    cases e4
    subst e3 e6
    have ta := t.ok.add (o := .tup [kV kvs[i].1, v]) e5
    exact ⟨_, .tup [kD kvs[i].1, kvs[i].2], ta, rfl, rfl, by rw [List.getElem?_map, List.getElem?_eq_getElem hi]; rfl, .tup (SqT.of upd_same) (.cons (kD_rep _) (.cons (rv.mono ta.ex) .nil))⟩
  stop := fun i z1 t hc hi => by
    obtain ⟨_, h1, h2⟩ := t.ok.cell _ _ hc
    rw [List.length_map] at hi
    exact ⟨h1, by rw [repK_len h2]; exact hi⟩
def frzW (x : D) (ω : Om) (F : Addr → Obj → List (Key × V) → List (Key × D) → Prop) : Prop := refW x fun a => match ω a with
  | some (.fk o xs kvs) => F a o xs kvs
  | _ => False
theorem frzW_iff {x : D} {ω : Om} {F : Addr → Obj → List (Key × V) → List (Key × D) → Prop} : frzW x ω F ↔ ∃ a o xs kvs, x = .ref a ∧ ω a = some (.fk o xs kvs) ∧ F a o xs kvs := by
  unfold frzW
  constructor
  · intro h
    obtain ⟨a, rfl, h⟩ := refW_iff.mp h
    have h : (match ω a with
      | some (.fk o xs kvs) => F a o xs kvs
      | _ => False) := h
    split at h
    · rename_i o xs kvs e; exact ⟨a, o, xs, kvs, rfl, e, h⟩
    · exact h.elim
  · rintro ⟨a, o, xs, kvs, rfl, e, h⟩
    refine refW_iff.mpr ⟨a, rfl, ?_⟩
    rw [e]; exact h
/-- e.values(), e locked -/
def biVals (e : BE K) : BI K where
  t := fun W => iVals (e.t W)
  w := fun ρ ω Φ Ψ => e.w ρ ω (fun x ω1 => frzW x ω1 fun a o xs kvs => Φ (kvs.map fun p => p.2) (fun ω' => ω' a = some (.fk o xs kvs)) ω1) Ψ
  ok := fun W ρ z σ R Φ Ψ h o r q qx => by
    refine e.ok W ρ z σ _ _ Ψ h o r (fun v z1 d t1 r1 h1 => ?_) qx
    obtain ⟨a, ob, xs, kvs, rfl, hc, h1⟩ := frzW_iff.mp h1
    cases r1
    obtain ⟨_, g1, g2⟩ := t1.ok.cell _ _ hc
    exact ⟨a, ob, xs, rfl, g1, q _ z1 _ _ t1 (it_vals _ _ ob xs kvs) h1⟩
/-- e.items(), e locked -/
def biItems (e : BE K) : BI K where
  t := fun W => iItems (e.t W)
  w := fun ρ ω Φ Ψ => e.w ρ ω (fun x ω1 => frzW x ω1 fun a o xs kvs => Φ (kvs.map fun p => .tup [kD p.1, p.2]) (fun ω' => ω' a = some (.fk o xs kvs)) ω1) Ψ
  ok := fun W ρ z σ R Φ Ψ h o r q qx => by
    refine e.ok W ρ z σ _ _ Ψ h o r (fun v z1 d t1 r1 h1 => ?_) qx
    obtain ⟨a, ob, xs, kvs, rfl, hc, h1⟩ := frzW_iff.mp h1
    cases r1
    obtain ⟨_, g1, g2⟩ := t1.ok.cell _ _ hc
    exact ⟨a, ob, xs, rfl, g1, q _ z1 _ _ t1 (it_items _ _ ob xs kvs) h1⟩
/-- the keys of a dict that is locked -/
def biKeysF (e : BE K) : BI K where
  t := fun W => iKeys (e.t W)
  w := fun ρ ω Φ Ψ => e.w ρ ω (fun x ω1 => frzW x ω1 fun a o xs kvs => Φ (kvs.map fun p => kD p.1) (fun ω' => ω' a = some (.fk o xs kvs)) ω1) Ψ
  ok := fun W ρ z σ R Φ Ψ h o r q qx => by
    refine e.ok W ρ z σ _ _ Ψ h o r (fun v z1 d t1 r1 h1 => ?_) qx
    obtain ⟨a, ob, xs, kvs, rfl, hc, h1⟩ := frzW_iff.mp h1
    cases r1
    obtain ⟨_, g1, g2⟩ := t1.ok.cell _ _ hc
    exact ⟨a, ob, rfl, .inl ⟨xs, g1, q _ z1 _ _ t1 (it_keys _ _ ob xs kvs) h1⟩⟩
/-! ### list(d.items()) -/
theorem repL_pairs {H' : Hp} {Hd : Hp} : ∀ {ts : List Addr} {xs : List (Key × V)} {kvs : List (Key × D)}, RepK K Hd xs kvs → Paired (fun (t : Addr) (q : Key × V) => H' t = some (.tup [kV q.1, q.2])) ts xs → (∀ a o, Hd a = some o → H' a = some o) → RepL K H' (ts.map V.ref) (kvs.map fun p => .tup [kD p.1, p.2])
  | _, _, _, .nil, .nil, _ => .nil
  | _, _, _, .cons h r, .cons g s, e => by
    refine .cons (.tup (SqT.of g) (.cons ?_ (.cons (h.2.mono e) .nil))) (repL_pairs r s e)
    rw [h.1]; exact kD_rep _
/-- list(e.items()), e unlocked -/
def bListItems (e : BE K) : BE K where
  t := fun W => LiI.tListItems (e.t W)
  w := fun ρ ω Φ Ψ => e.w ρ ω (fun x ω1 => refW x fun a => cK (ω1 a) fun kvs => Φ (.lst (kvs.map fun p => .tup [kD p.1, p.2])) ω1) Ψ
  ok := fun W ρ z σ Q Φ Ψ h k r q qx => by
    refine e.ok W ρ z σ _ _ Ψ h k r (fun v z1 d t1 r1 h1 => ?_) qx
    obtain ⟨a, rfl, h1⟩ := refW_iff.mp h1
    obtain ⟨kvs, hc, h1⟩ := cK_iff.mp h1
    cases r1
    obtain ⟨_, xs, g1, g2⟩ := t1.ok.cell _ _ hc
    refine ⟨a, xs, rfl, g1, fun H' p ts ext hp hts hn hH' pr => ?_⟩
    let dd : Hp := fun b => if b = p ∨ b ∈ ts then H' b else z1.d b
    have hd0 : ∀ b, (b = p ∨ b ∈ ts) → z1.h b = none := fun b hb => by
      rcases hb with rfl | hb
      · exact hp
      · exact hts b hb
    have exd : Exd z1.d dd := fun b o e => by
      show (if b = p ∨ b ∈ ts then H' b else z1.d b) = some o
      rw [if_neg]
      · exact e
      · intro hb; have := t1.ok.fz b o e; rw [hd0 b hb] at this; cases this
    have dH : ∀ b o, dd b = some o → H' b = some o := fun b o e => by
      have e : (if b = p ∨ b ∈ ts then H' b else z1.d b) = some o := e
      by_cases hb : b = p ∨ b ∈ ts
      · rw [if_pos hb] at e; exact e
      · rw [if_neg hb] at e; exact ext _ _ (t1.ok.fz b o e)
    have pr2 : Paired (fun (t : Addr) (q : Key × V) => dd t = some (.tup [kV q.1, q.2])) ts xs := by
      have : ∀ {us : List Addr} {ys : List (Key × V)}, Paired (fun (t : Addr) (q : Key × V) => H' t = some (.tup [kV q.1, q.2])) us ys → (∀ t ∈ us, t ∈ ts) → Paired (fun (t : Addr) (q : Key × V) => dd t = some (.tup [kV q.1, q.2])) us ys := by
        intro us ys h
        induction h with
        | nil => intro _; exact .nil
        | cons h _ ih =>
          intro hm
          refine .cons ?_ (ih fun t ht => hm t (List.mem_cons_of_mem _ ht))
          show (if _ = p ∨ _ ∈ ts then H' _ else z1.d _) = _
          rw [if_pos (.inr (hm _ List.mem_cons_self))]; exact h
      exact this pr fun _ h => h
    have inT : ∀ {us : List Addr} {ys : List (Key × V)}, Paired (fun (t : Addr) (q : Key × V) => H' t = some (.tup [kV q.1, q.2])) us ys → ∀ t ∈ us, ∃ o, H' t = some (.tup o) := by
      intro us ys h
      induction h with
      | nil => intro t ht; cases ht
      | cons h _ ih =>
        intro t ht
        rcases List.mem_cons.mp ht with rfl | ht
        · exact ⟨_, h⟩
        · exact ih t ht
    have to2 : To K z1 ⟨dd, H', z1.o, z1.t⟩ := by
      refine ⟨⟨dH, fun b c e => ?_, t1.ok.tab.ext ext, t1.ok.tk, fun b o e => ?_⟩, exd, fun b o e _ _ => ext b o e, fun b hb => ?_, rfl, fun b hb => .inl hb, fun b hb => ?_⟩
      · obtain ⟨c1, c2⟩ := t1.ok.cell b c e
        refine ⟨?_, c2.mono exd fun u e => ext _ _ e⟩
        show (if b = p ∨ b ∈ ts then H' b else z1.d b) = none
        rw [if_neg]
        · exact c1
        · intro hb
          obtain ⟨o, ho⟩ := c2.some
          rw [hd0 b hb] at ho; cases ho
      · have e2 : (if b = p ∨ b ∈ ts then H' b else z1.d b) = some o := e
        by_cases hb : b = p ∨ b ∈ ts
        · rw [if_pos hb] at e2
          rcases hb with hb | hb
          · rw [hb, hH'] at e2; cases e2; exact fun _ w => by cases w
          · obtain ⟨o', ho'⟩ := inT pr b hb
            rw [ho'] at e2; cases e2; exact fun _ w => by cases w
        · rw [if_neg hb] at e2; exact t1.ok.nd b o e2
      · cases e : z1.h b with
        | none => exact absurd e hb
        | some o =>
          have := ext b o e
          show H' b ≠ none
          rw [this]; simp
      · have hb : (if b = p ∨ b ∈ ts then H' b else z1.d b) ≠ none := hb
        by_cases hc : b = p ∨ b ∈ ts
        · exact .inr (.inl (hd0 b hc))
        · rw [if_neg hc] at hb; exact .inl hb
    refine q (.ref p) _ (.lst (kvs.map fun p => .tup [kD p.1, p.2])) (t1.trans to2) (.lst ?_ (repL_pairs g2 pr2 exd)) h1
    show (if p = p ∨ p ∈ ts then H' p else z1.d p) = _
    rw [if_pos (.inl rfl)]; exact hH'
/-! ### sorted, of texts -/
theorem ltCps_eq : ∀ a b : List Nat, PySem.Spec.ltCps a b = ltS a b
  | [], [] => by unfold ltS; rfl
  | [], _ :: _ => by unfold ltS; simp [PySem.Spec.ltCps]
  | _ :: _, [] => by unfold ltS; simp [PySem.Spec.ltCps]
  | a :: r, b :: t => by
    have ih := ltCps_eq r t
    unfold ltS at ih ⊢
    rw [PySem.Spec.ltCps, ih, Bool.eq_iff_iff]
    simp [List.cons_lt_cons_iff]
theorem leS_trans {x y w : List Nat} (h : ltS y x = false) (g : ltS w y = false) : ltS w x = false := by
  unfold ltS at h g ⊢
  have h := of_decide_eq_false h
  have g := of_decide_eq_false g
  refine decide_eq_false fun z => ?_
  have h1 : x ≤ y := List.not_lt.mp h
  have g1 : y ≤ w := List.not_lt.mp g
  exact absurd z (List.not_lt.mpr (List.le_trans h1 g1))
theorem rising_pw : ∀ (l : List (List Nat)) (p : List Nat), risingS (sOf p) (l.map sOf) = true → (∀ y ∈ l, ltS y p = false) ∧ l.Pairwise fun x y => ltS y x = false
  | [], _, _ => ⟨fun _ h => (nomatch h), List.Pairwise.nil⟩
  | x :: r, p, h => by
    rw [List.map_cons, risingS, Bool.and_eq_true, ltCps_eq] at h
    obtain ⟨h1, h2⟩ := h
    have h1 : ltS x p = false := by simpa [sOf] using h1
    obtain ⟨i1, i2⟩ := rising_pw r x h2
    refine ⟨fun y hy => ?_, List.pairwise_cons.mpr ⟨i1, i2⟩⟩
    rcases List.mem_cons.mp hy with rfl | hy
    · exact h1
    · exact leS_trans h1 (i1 y hy)
theorem sortedS_pw : ∀ (l : List (List Nat)), sortedS (l.map sOf) = true → l.Pairwise fun x y => ltS y x = false
  | [], _ => .nil
  | x :: r, h => by
    obtain ⟨i1, i2⟩ := rising_pw r x h
    exact List.pairwise_cons.mpr ⟨i1, i2⟩
theorem cs_sOf2 (s : List Nat) : cs (sOf s) = s := by simp [sOf]
/-- sorted(texts), below 64 -/
def cSortS (own : Bool) : CB K where
  r := rSortedS K
  w := fun ds ω Φ => match ds with
    | [d] => optW (lstOf ω d) fun us => optW (strsOf us) fun ts => NeedW (ts.length < 64) (∀ l : List (List Nat), l.Perm ts → (l.Pairwise fun x y => ltS y x = false) → if own = true then ∀ a, ω a = none → Φ (.ref a) (ω.set a (.lst (l.map .str))) else Φ (.lst (l.map .str)) ω)
    | _ => False
  ok := fun z xs ds Q Φ h k r q => by
    split at h
    · obtain ⟨x, rfl, r1⟩ := rep1 r
      obtain ⟨us, h1, h⟩ := optW_iff.mp h
      obtain ⟨ts, h2, h⟩ := optW_iff.mp h
      obtain ⟨a, ys, rfl, ha, ry⟩ := lstOf_seq k r1 h1
      rw [strsOf_eq h2] at ry
      rw [RepL.strs ry] at ha
      refine ⟨a, ts.map sOf, rfl, ha, by rw [List.length_map]; exact h.1, fun vs p pm pw hp => ?_⟩
      obtain ⟨m, e⟩ : ∃ m : List (List Nat), m.map sOf = vs := ⟨vs.map cs, by rw [List.map_map]; exact (List.map_congr_left fun x _ => sOf_cs2 x).trans (List.map_id _)⟩
      subst e
      have pm2 : m.Perm ts := by
        have := pm.map cs
        rw [List.map_map, List.map_map] at this
        have i : ∀ l : List (List Nat), l.map (cs ∘ sOf) = l := fun l => (List.map_congr_left fun x _ => cs_sOf x).trans (List.map_id _)
        rwa [i, i] at this
      have h3 := h.2 m pm2 (sortedS_pw m pw)
      cases own with
      | true =>
        rw [if_pos rfl] at h3
        have l := k.lay (o := .lst ((m.map sOf).map V.str)) (c := .lst (m.map .str)) hp ⟨_, upd_same, RepL.of_strs m⟩
        exact q _ _ _ l (.ref p) (h3 p (k.free hp).2)
      | false =>
        rw [if_neg Bool.false_ne_true] at h3
        have l := k.add (o := .lst ((m.map sOf).map V.str)) hp
        exact q _ _ _ l (.lst upd_same (RepL.of_strs m)) h3
    · exact h.elim
theorem call_cSortS {X : Cx} {own : Bool} : CallR X (.builtin "sorted") (cSortS (K := X.K) own).r := cr_sortedS
theorem call_cLenK {X : Cx} : CallR X (.builtin "len") (cLenK (K := X.K)).r := call_lenD
theorem call_cDictC {X : Cx} : CallR X (.type "dict") (cDictC (K := X.K)).r := call_dictD
theorem call_cListK {X : Cx} {own : Bool} (hc : X.calm = true := by rfl) : CallR X (.type "list") (cListK (K := X.K) own).r := call_listD hc
/-- sorted(d), d's keys texts, below 64 -/
def txtKeys : List (Key × D) → Option (List (List Nat))
  | [] => some []
  | (.inr s, _) :: r => (txtKeys r).map (cs s :: ·)
  | _ => none
theorem txtKeys_ok {Hd : Hp} : ∀ {xs : List (Key × V)} {kvs : List (Key × D)} {ts : List (List Nat)}, RepK K Hd xs kvs → txtKeys kvs = some ts → xs.map (·.1) = (ts.map sOf).map Sum.inr
  | _, _, _, .nil, h => by cases h; rfl
  | _, _, ts, .cons (a := p) (b := q) h r, e => by
    obtain ⟨k, d⟩ := q
    cases k with
    | inl i => cases e
    | inr s =>
      unfold txtKeys at e
      obtain ⟨us, e1, rfl⟩ := Option.map_eq_some_iff.mp e
      have h1 : p.1 = .inr s := h.1
      rw [List.map_cons, List.map_cons, List.map_cons, h1, txtKeys_ok r e1, sOf_cs2]
def cSortK (own : Bool) : CB K where
  r := fun xs H Q => ∃ (a : Addr) (kvs : List (Key × V)) (ks : List Str), xs = [.ref a] ∧ Rd H a (.dK kvs) ∧ kvs.map (·.1) = ks.map Sum.inr ∧ ks.length < 64 ∧ ∀ ys p, ys.Perm ks → sortedS ys = true → H p = none → Q (.ref p) (upd H p (.lst (ys.map V.str)))
  w := fun ds ω Φ => match ds with
    | [d] => kvW d ω fun _ kvs => optW (txtKeys kvs) fun ts => NeedW (ts.length < 64) (∀ l : List (List Nat), l.Perm ts → (l.Pairwise fun x y => ltS y x = false) → if own = true then ∀ a, ω a = none → Φ (.ref a) (ω.set a (.lst (l.map .str))) else Φ (.lst (l.map .str)) ω)
    | _ => False
  ok := fun z xs ds Q Φ h k r q => by
    split at h
    · obtain ⟨x, rfl, r1⟩ := rep1 r
      obtain ⟨a, ys, kvs, rfl, _, g1, g2, h⟩ := kvW_ok k r1 h
      obtain ⟨ts, h2, h⟩ := optW_iff.mp h
      refine ⟨a, ys, ts.map sOf, rfl, g1, txtKeys_ok g2 h2, by rw [List.length_map]; exact h.1, fun vs p pm pw hp => ?_⟩
      obtain ⟨m, e⟩ : ∃ m : List (List Nat), m.map sOf = vs := ⟨vs.map cs, by rw [List.map_map]; exact (List.map_congr_left fun x _ => sOf_cs2 x).trans (List.map_id _)⟩
      subst e
      have pm2 : m.Perm ts := by
        have := pm.map cs
        rw [List.map_map, List.map_map] at this
        have i : ∀ l : List (List Nat), l.map (cs ∘ sOf) = l := fun l => (List.map_congr_left fun x _ => cs_sOf x).trans (List.map_id _)
        rwa [i, i] at this
      have h3 := h.2 m pm2 (sortedS_pw m pw)
      cases own with
      | true =>
        rw [if_pos rfl] at h3
        have l := k.lay (o := .lst ((m.map sOf).map V.str)) (c := .lst (m.map .str)) hp ⟨_, upd_same, RepL.of_strs m⟩
        exact q _ _ _ l (.ref p) (h3 p (k.free hp).2)
      | false =>
        rw [if_neg Bool.false_ne_true] at h3
        have l := k.add (o := .lst ((m.map sOf).map V.str)) hp
        exact q _ _ _ l (.lst upd_same (RepL.of_strs m)) h3
    · exact h.elim
theorem call_cSortK {X : Cx} {own : Bool} (hc : X.calm = true := by rfl) : CallR X (.builtin "sorted") (cSortK (K := X.K) own).r := call_sortedD hc
end
/-! ### rules -/
section
variable {X : Cx} {W : WX} {a b c e : Expr} {A B C' E : BE X.K} {S : BS X.K} {st : Stmt} {apos cpos p pos : Pos}
theorem P_dget2 (hu : X.A.units + 1 < cLine) (ho : PE X a (A.t W)) (hy : PE X b (B.t W)) (hx : PE X c (C'.t W)) (m : M2 X a "get" apos b c cpos := by exact ⟨rfl, rfl, rfl, rfl⟩) : PE X (.Call (.Attribute a "get" apos) [b, c] [] cpos) ((bDget2 A B C').t W) := pe_dget2 hu ho hy hx m
theorem P_dsetd (ho : PE X a (A.t W)) (hy : PE X b (B.t W)) (hx : PE X c (C'.t W)) (m : M2 X a "setdefault" apos b c cpos := by exact ⟨rfl, rfl, rfl, rfl⟩) : PE X (.Call (.Attribute a "setdefault" apos) [b, c] [] cpos) ((bDsetd A B C').t W) := pe_dsetd ho hy hx m
theorem P_dpop (ho : PE X a (A.t W)) (hy : PE X b (B.t W)) (m : M1 X a "pop" apos b cpos := by exact ⟨rfl, rfl, rfl, rfl⟩) : PE X (.Call (.Attribute a "pop" apos) [b] [] cpos) ((bDpop A B).t W) := pe_dpop1 ho hy m
theorem P_lock (h : PE X e (E.t W)) : PE X e ((bLock E).t W) := pe_lock h
theorem S_lock (h : PS X st (S.t W)) : PS X st ((bsLock S).t W) := ps_lock h
theorem I_keysF {tg : Expr} (h : PE X e (E.t W)) : PI X tg e ((biKeysF E).t W) := pi_keys h
theorem I_vals {tg : Expr} (h : PE X e (E.t W)) (hbase : attributeBase e "values" X.env (eval e X.env) = eval e X.env := by rfl) (hline : (apos.endLine == cpos.line) = true := by rfl) : PI X tg (.Call (.Attribute e "values" apos) [] [] cpos) ((biVals E).t W) := pi_values h hbase hline
theorem I_items {elts : List Expr} {kk : Nat} {tpos : Pos} (h : PE X e (E.t W)) (hbase : attributeBase e "items" X.env (eval e X.env) = eval e X.env := by rfl) (hline : (apos.endLine == cpos.line) = true := by rfl) : PI X (.Tuple elts kk tpos) (.Call (.Attribute e "items" apos) [] [] cpos) ((biItems E).t W) := pi_items h hbase hline
theorem P_listItems (hm : X.mg "list" = none) (h : PE X e (E.t W)) (hc : X.calm = true := by rfl) (hg : Gl X "list" := by rfl) (hv : bootBuiltins "list" = some (.type "list") := by decide +kernel) (hbase : attributeBase e "items" X.env (eval e X.env) = eval e X.env := by rfl) (hline : (apos.endLine == cpos.line) = true := by rfl)
    (hs : starEach [.Call (.Attribute e "items" apos) [] [] cpos] X.env = (false, eval (.Call (.Attribute e "items" apos) [] [] cpos) X.env) :: starEach [] X.env := by rfl) : PE X (.Call (.Name "list" p) [.Call (.Attribute e "items" apos) [] [] cpos] [] pos) ((bListItems E).t W) := LiI.pe_listItems hc h hg hm hv hbase hline hs
end
end T

/-! Classes, dicts: the readings over data as equations. -/
namespace T
open PySem L2
section
variable {K : Fg} {l : List CCl} {f m c : Str} {A B C' E : BE K} {As : BA K} {S : BS K} {ρ : En} {ω : Om} {Φ : D → Om → Prop} {Ψ : Exn → Om → Prop} {k : KD}
theorem x_fld : (bFld l f A).w ρ ω Φ Ψ = A.w ρ ω (fun x ω1 => refW x fun a => insW (ω1 a) fun c fs => hasF l c f = true ∧ optW (fs.lookup f) fun d => Φ d ω1) Ψ := rfl
theorem x_sfld : (bsFld l f A B).w ρ ω k = B.w ρ ω (fun d ω1 => A.w ρ ω1 (fun x ω2 => refW x fun a => insW (ω2 a) fun c fs => hasF l c f = true ∧ fs.length < 1000 ∧ k.nx ρ (ω2.set a (.ins c (putFD f d fs)))) fun x ω1 => k.xc x ρ ω1) fun x ω1 => k.xc x ρ ω1 := rfl
theorem x_meth {tab : List (MT K)} : (bMeth tab m A As).w ρ ω Φ Ψ = A.w ρ ω (fun x ω1 => refW x fun a => insW (ω1 a) fun c fs => fs.lookup m = none ∧ tabW tab c fun e => As.w ρ ω1 (fun ds ω2 => e.W (.ref a :: (ds ++ e.ds)) ω2 Φ Ψ) Ψ) Ψ := rfl
theorem x_make {W : WP} {vs : List V} {ds : List D} {hd : ∀ H, RepL K H vs ds} : (bMake c W vs ds hd As).w ρ ω Φ Ψ = As.w ρ ω (fun xs ω1 => ∀ a, ω1 a = none → W (.ref a :: (xs ++ ds)) (ω1.set a (.ins c [])) fun d ω2 => d = .non ∧ Φ (.ref a) ω2) Ψ := rfl
theorem x_dget2 : (bDget2 A B C').w ρ ω Φ Ψ = A.w ρ ω (fun d ω1 => kvW d ω1 fun _ _ => B.w ρ ω1 (fun e ω2 => C'.w ρ ω2 (fun f ω3 => dg1W d e ω3 fun r => Φ (r.getD f) ω3) Ψ) Ψ) Ψ := rfl
theorem x_dsetd : (bDsetd A B C').w ρ ω Φ Ψ = A.w ρ ω (fun d ω1 => kvW d ω1 fun a _ => B.w ρ ω1 (fun e ω2 => C'.w ρ ω2 (fun f ω3 => cK (ω3 a) fun kvs => optW (keyD e) fun k => NeedW (kvs.length < 16777216) (match valD kvs k with
    | some g => Φ g ω3
    | none => Φ f (ω3.set a (.dk (putD kvs k f))))) Ψ) Ψ) Ψ := rfl
theorem x_dpop : (bDpop A B).w ρ ω Φ Ψ = A.w ρ ω (fun d ω1 => kvW d ω1 fun a _ => B.w ρ ω1 (fun e ω2 => cK (ω2 a) fun kvs => optW (keyD e) fun k => optW (valD kvs k) fun g => Φ g (ω2.set a (.dk (dropD kvs k)))) Ψ) Ψ := rfl
theorem x_biVals {F : List D → (Om → Prop) → Om → Prop} : (biVals A).w ρ ω F Ψ = A.w ρ ω (fun x ω1 => frzW x ω1 fun a o xs kvs => F (kvs.map fun p => p.2) (fun ω' => ω' a = some (.fk o xs kvs)) ω1) Ψ := rfl
theorem x_biItems {F : List D → (Om → Prop) → Om → Prop} : (biItems A).w ρ ω F Ψ = A.w ρ ω (fun x ω1 => frzW x ω1 fun a o xs kvs => F (kvs.map fun p => .tup [kD p.1, p.2]) (fun ω' => ω' a = some (.fk o xs kvs)) ω1) Ψ := rfl
theorem x_biKeysF {F : List D → (Om → Prop) → Om → Prop} : (biKeysF A).w ρ ω F Ψ = A.w ρ ω (fun x ω1 => frzW x ω1 fun a o xs kvs => F (kvs.map fun p => kD p.1) (fun ω' => ω' a = some (.fk o xs kvs)) ω1) Ψ := rfl
theorem x_listItems : (bListItems A).w ρ ω Φ Ψ = A.w ρ ω (fun x ω1 => refW x fun a => cK (ω1 a) fun kvs => Φ (.lst (kvs.map fun p => .tup [kD p.1, p.2])) ω1) Ψ := rfl
theorem x_refW {a : Addr} {F : Addr → Prop} : refW (.ref a) F = F a := rfl
theorem x_insW {fs : List (Str × D)} {F : Str → List (Str × D) → Prop} : insW (some (.ins c fs)) F = F c fs := rfl
theorem x_kvW {a : Addr} {F : Addr → List (Key × D) → Prop} : kvW (.ref a) ω F = optW (dkOf (ω a)) (F a) := rfl
theorem x_dkOf1 {kvs : List (Key × D)} : dkOf (some (.dk kvs)) = some kvs := rfl
theorem x_dkOf2 {o : Obj} {xs : List (Key × V)} {kvs : List (Key × D)} : dkOf (some (.fk o xs kvs)) = some kvs := rfl
theorem x_dg1W {x y : D} {F : Option D → Prop} : dg1W x y ω F = kvW x ω fun _ kvs => optW (keyD y) fun k => F (valD kvs k) := rfl
theorem x_keyS {s : List Nat} : keyD (.str s) = some (.inr (sOf s)) := rfl
theorem x_keyI {i : Int} : keyD (.int i) = some (.inl i) := rfl
theorem x_tab1 {W : WPX} {vs : List V} {ds : List D} {hd : ∀ H, RepL K H vs ds} {r : List (MT K)} {F : MT K → Prop} : tabW (MT.mk c W vs ds hd :: r) c F = F (MT.mk c W vs ds hd) := by
  show ((c = c ∧ F _) ∨ (c ≠ c ∧ _)) = _
  simp
theorem x_frzW {a : Addr} {o : Obj} {xs : List (Key × V)} {kvs : List (Key × D)} {F : Addr → Obj → List (Key × V) → List (Key × D) → Prop} : frzW (.ref a) (ω.set a (.fk o xs kvs)) F = F a o xs kvs := by
  unfold frzW refW
  simp only [Om.set_same]
theorem x_dnewK : (bDnewK : BE K).w ρ ω Φ Ψ = ∀ p, ω p = none → Φ (.ref p) (ω.set p (.dk [])) := rfl
theorem x_bdget : (bDget A B).w ρ ω Φ Ψ = A.w ρ ω (fun x ω1 => B.w ρ ω1 (fun y ω2 => dgetW x y ω2 fun r => optW r fun d => Φ d ω2) Ψ) Ψ := rfl
theorem x_dgetW1 {a : Addr} {s : List Nat} {F : Option D → Prop} : dgetW (.ref a) (.str s) ω F = optW (dkOf (ω a)) fun kvs => F (valD kvs (.inr (sOf s))) := rfl
theorem x_dgetW2 {a : Addr} {i : Int} {F : Option D → Prop} : dgetW (.ref a) (.int i) ω F = optW (dkOf (ω a)) fun kvs => F (valD kvs (.inl i)) := rfl
theorem x_bdput : (bsDput A B C').w ρ ω k = C'.w ρ ω (fun d ω1 => A.w ρ ω1 (fun x ω2 => B.w ρ ω2 (fun y ω3 => dputK x y d ω3 fun ω4 => k.nx ρ ω4) fun x ω1 => k.xc x ρ ω1) fun x ω1 => k.xc x ρ ω1) fun x ω1 => k.xc x ρ ω1 := rfl
theorem x_dputK1 {a : Addr} {i : Int} {d : D} {F : Om → Prop} : dputK (.ref a) (.int i) d ω F = cK (ω a) fun kvs => NeedW (kvs.length < 16777216) (F (ω.set a (.dk (putD kvs (.inl i) d)))) := rfl
theorem x_dputK2 {a : Addr} {s : List Nat} {d : D} {F : Om → Prop} : dputK (.ref a) (.str s) d ω F = cK (ω a) fun kvs => NeedW (kvs.length < 16777216) (F (ω.set a (.dk (putD kvs (.inr (sOf s)) d)))) := rfl
theorem x_lenK {a : Addr} : (cLenK : CB K).w [.ref a] ω Φ = cK (ω a) fun kvs => Φ (.int kvs.length) ω := rfl
theorem x_listK0 {d : D} : (cListK false : CB K).w [d] ω Φ = kvW d ω fun _ kvs => Φ (.lst (kvs.map fun p => kD p.1)) ω := by
  show (kvW d ω fun _ kvs => if false = true then _ else _) = _
  simp
theorem x_sortS0 {d : D} : (cSortS false : CB K).w [d] ω Φ = optW (lstOf ω d) fun us => optW (strsOf us) fun ts => NeedW (ts.length < 64) (∀ l : List (List Nat), l.Perm ts → (l.Pairwise fun x y => ltS y x = false) → Φ (.lst (l.map .str)) ω) := by
  show (optW (lstOf ω d) fun us => optW (strsOf us) fun ts => NeedW (ts.length < 64) (∀ l : List (List Nat), l.Perm ts → (l.Pairwise fun x y => ltS y x = false) → if false = true then _ else _)) = _
  simp
theorem w_lock {a : Addr} {kvs : List (Key × D)} (h : ω a = some (.dk kvs)) (q : ∀ o xs, E.w ρ (ω.set a (.fk o xs kvs)) (fun e ω2 => ω2 a = some (.fk o xs kvs) ∧ Φ e (ω2.set a (.dk kvs))) fun _ _ => False) : (bLock E).w ρ ω Φ Ψ := ⟨a, kvs, h, q⟩
theorem w_slock {a : Addr} {kvs : List (Key × D)} (h : ω a = some (.dk kvs)) (q : ∀ o xs, S.w ρ (ω.set a (.fk o xs kvs)) ⟨fun ρ1 ω2 => ω2 a = some (.fk o xs kvs) ∧ k.nx ρ1 (ω2.set a (.dk kvs)), fun d ω2 => ω2 a = some (.fk o xs kvs) ∧ k.rt d (ω2.set a (.dk kvs)), fun ρ1 ω2 => ω2 a = some (.fk o xs kvs) ∧ k.bk ρ1 (ω2.set a (.dk kvs)), fun ρ1 ω2 => ω2 a = some (.fk o xs kvs) ∧ k.ct ρ1 (ω2.set a (.dk kvs)), fun _ _ _ => False⟩) : (bsLock S).w ρ ω k := ⟨a, kvs, h, q⟩
theorem set_back {a : Addr} {c c' : Cell} (h : ω a = some c) : (ω.set a c').set a c = ω := by rw [Om.set_set, Om.set_self h]
end
end T

/-! == and != of data with lists that may change in it; small words of walks. -/
namespace T
open PySem L2
section
variable {K : Fg} {ω : Om} {Φ : D → Om → Prop}
/-- what compares as a whole -/
def isBig : D → Bool
  | .ref _ => true
  | .lst _ => true
  | .tup _ => true
  | _ => false
theorem eq_Rs {d e d' e' : D} (b : isBig d = true) (h : Rs ω 3 d d') (g : Rs ω 3 e e') (hd : dpt d' ≤ 64) (ge : dpt e' ≤ 64) : (oEq : O2 K).w d e ω Φ = Φ (.bl (deq d' e')) ω := by
  have := eqDW_Rs (neg := false) (Φ := Φ) h g hd ge
  rw [if_neg Bool.false_ne_true] at this
  rw [← this]
  cases d <;> first | (cases b; done) | (cases e <;> rfl)
theorem ne_Rs {d e d' e' : D} (b : isBig d = true) (h : Rs ω 3 d d') (g : Rs ω 3 e e') (hd : dpt d' ≤ 64) (ge : dpt e' ≤ 64) : (oNe : O2 K).w d e ω Φ = Φ (.bl (!deq d' e')) ω := by
  have := eqDW_Rs (neg := true) (Φ := Φ) h g hd ge
  rw [if_pos rfl] at this
  rw [← this]
  cases d <;> first | (cases b; done) | (cases e <;> rfl)
theorem rs_ref {n : Nat} {a : Addr} {ds : List D} (h : ω a = some (.lst ds)) (o : eqDL ds = true) : Rs ω (n + 1) (.ref a) (.lst ds) := by
  refine .ref h ?_
  clear h
  induction ds with
  | nil => exact .nil
  | cons d r ih =>
    simp only [eqDL, Bool.and_eq_true] at o
    exact .cons (.base o.1) (ih o.2)
/-- a list, by value or not -/
theorem rs_lst {n : Nat} {d : D} {ds : List D} (h : lstOf ω d = some ds) (o : eqDL ds = true) : Rs ω (n + 1) d (.lst ds) := by
  rcases lst_two h with rfl | ⟨a, rfl, ha⟩
  · exact .base (by simp only [eqD]; exact o)
  · exact rs_ref ha o
/-- lists of the same parts -/
theorem eq_same {d e : D} {ds : List D} {n : Nat} (b : isBig d = true) (h : lstOf ω d = some ds) (g : lstOf ω e = some ds) (ok : dOk n (.lst ds)) (hn : n ≤ 64) (q : Φ (.bl true) ω) : (oEq : O2 K).w d e ω Φ := by
  have o : eqDL ds = true := by have := ok.1; simp only [eqD] at this; exact this
  rw [eq_Rs b (rs_lst h o) (rs_lst g o) (Nat.le_trans ok.2 hn) (Nat.le_trans ok.2 hn), deq_refl _ ok.1]
  exact q
theorem ne_same {d e : D} {ds : List D} {n : Nat} (b : isBig d = true) (h : lstOf ω d = some ds) (g : lstOf ω e = some ds) (ok : dOk n (.lst ds)) (hn : n ≤ 64) (q : Φ (.bl false) ω) : (oNe : O2 K).w d e ω Φ := by
  have o : eqDL ds = true := by have := ok.1; simp only [eqD] at this; exact this
  rw [ne_Rs b (rs_lst h o) (rs_lst g o) (Nat.le_trans ok.2 hn) (Nat.le_trans ok.2 hn), deq_refl _ ok.1]
  exact q
theorem add_any {d e : D} {ds es : List D} (h1 : lstOf ω d = some ds) (h2 : lstOf ω e = some es) (h : ds.length + es.length ≤ 16777216) (q : Φ (.lst (ds ++ es)) ω) : (oAdd : O2 K).w d e ω Φ := by
  rcases lst_two h1 with rfl | ⟨a, rfl, ha⟩ <;> rcases lst_two h2 with rfl | ⟨b, rfl, hb⟩ <;> exact ⟨ds, es, h1, h2, by rw [sizeLine_eq]; exact h, q⟩
theorem ix_any {d : D} {ds : List D} {i : Int} (h : lstOf ω d = some ds) : (oIx : O2 K).w d (.int i) ω Φ = optW (atI ds i) fun x => Φ x ω := by
  rcases lst_two h with rfl | ⟨a, rfl, ha⟩
  · exact x_ixL
  · rw [x_ixR, ha]; rfl
theorem isi_lst {d : D} {ds : List D} (h : ∃ a, d = .ref a ∧ ω a = some (.lst ds)) (q : Φ (.bl true) ω) : isW1 "list" d ω Φ := by
  obtain ⟨a, rfl, ha⟩ := h
  refine w_isW (Ty := "list") (by simp [tyD, ha]) ?_
  rw [show isT "list" "list" = true by decide]
  exact q
end
end T

/-! Fields, methods, makings: equations that go on by themselves; what is known of a cell. -/
namespace T
open PySem PyProof.Rows L2
theorem hd_drop {K : Fg} {vs us : List V} {ds : List D} (e : vs = us) (h : ∀ H, RepL K H us ds) : ∀ H, RepL K H vs ds := by subst e; exact h
theorem hq_sui {A : Around} {k : Nat} {v : Option Value} (hr : Room k A) : (A.mark v).units + 64 < cLine := by have := hr.un; show A.units + 64 < cLine; omega
theorem hu_sui {A : Around} {k : Nat} {v : Option Value} (hr : Room k A) : (A.mark v).units + 1 < cLine := by have := hr.un; show A.units + 1 < cLine; omega
theorem hu65_sui {A : Around} {k : Nat} {v : Option Value} (hr : Room k A) : (A.mark v).units + 65 < cLine := by have := hr.un; show A.units + 65 < cLine; omega
section
variable {K : Fg} {l : List CCl} {f g m c e : Str} {A B : BE K} {As : BA K} {ρ : En} {ω : Om} {Φ : D → Om → Prop} {Ψ : Exn → Om → Prop} {k : KD}
theorem y_fld : (bFld l f A).w ρ ω Φ Ψ = A.w ρ ω (fun x ω1 => refW x fun a => insW (ω1 a) fun c fs => NeedW (hasF l c f = true) (optW (fs.lookup f) fun d => Φ d ω1)) Ψ := rfl
theorem y_sfld : (bsFld l f A B).w ρ ω k = B.w ρ ω (fun d ω1 => A.w ρ ω1 (fun x ω2 => refW x fun a => insW (ω2 a) fun c fs => NeedW (hasF l c f = true) (NeedW (fs.length < 1000) (k.nx ρ (ω2.set a (.ins c (putFD f d fs)))))) fun x ω1 => k.xc x ρ ω1) fun x ω1 => k.xc x ρ ω1 := rfl
theorem y_meth {tab : List (MT K)} : (bMeth tab m A As).w ρ ω Φ Ψ = A.w ρ ω (fun x ω1 => refW x fun a => insW (ω1 a) fun c fs => NeedW (fs.lookup m = none) (tabW tab c fun e => As.w ρ ω1 (fun ds ω2 => e.W (.ref a :: (ds ++ e.ds)) ω2 Φ Ψ) Ψ)) Ψ := rfl
theorem y_lk0 {d : D} {r : List (Str × D)} : List.lookup f ((f, d) :: r) = some d := by simp [List.lookup]
theorem y_lk1 {d : D} {r : List (Str × D)} (h : f ≠ g) : List.lookup f ((g, d) :: r) = List.lookup f r := by
  have : (f == g) = false := beq_eq_false_iff_ne.mpr h
  simp only [List.lookup, this]
theorem y_lkn : List.lookup f ([] : List (Str × D)) = none := rfl
theorem y_pt0 {d x : D} {r : List (Str × D)} : putFD f d ((f, x) :: r) = (f, d) :: r := by simp [putFD]
theorem y_pt1 {d x : D} {r : List (Str × D)} (h : g ≠ f) : putFD f d ((g, x) :: r) = (g, x) :: putFD f d r := by simp [putFD, h]
theorem y_ptn {d : D} : putFD f d [] = [(f, d)] := rfl
theorem y_wX {W : WP} {ds : List D} : wX W ds ω Φ Ψ = W ds ω Φ := rfl
theorem y_tab1 {W : WPX} {vs : List V} {ds : List D} {hd : ∀ H, RepL K H vs ds} {r : List (MT K)} {F : MT K → Prop} : tabW (MT.mk c W vs ds hd :: r) c F = F (MT.mk c W vs ds hd) := x_tab1
theorem y_tab2 {W : WPX} {vs : List V} {ds : List D} {hd : ∀ H, RepL K H vs ds} {r : List (MT K)} {F : MT K → Prop} (h : e ≠ c) : tabW (MT.mk c W vs ds hd :: r) e F = tabW r e F := by
  show ((e = c ∧ F _) ∨ (e ≠ c ∧ tabW r e F)) = _
  simp [h]
theorem y_set0 {a : Addr} {x : Cell} : ω.set a x a = some x := Om.set_same
theorem y_set1 {a b : Addr} {x : Cell} (h : b ≠ a) : ω.set a x b = ω b := Om.set_ne h
theorem y_dictC {d : D} : (cDictC : CB K).w [d] ω Φ = kvW d ω fun _ kvs => ∀ p, ω p = none → Φ (.ref p) (ω.set p (.dk kvs)) := rfl
theorem y_sortK1 {d : D} : (cSortK true : CB K).w [d] ω Φ = kvW d ω fun _ kvs => optW (txtKeys kvs) fun ts => NeedW (ts.length < 64) (∀ l : List (List Nat), l.Perm ts → (l.Pairwise fun x y => ltS y x = false) → ∀ a, ω a = none → Φ (.ref a) (ω.set a (.lst (l.map .str)))) := by
  show (kvW d ω fun _ kvs => optW (txtKeys kvs) fun ts => NeedW (ts.length < 64) (∀ l : List (List Nat), l.Perm ts → (l.Pairwise fun x y => ltS y x = false) → if true = true then _ else _)) = _
  simp
theorem y_sortK0 {d : D} : (cSortK false : CB K).w [d] ω Φ = kvW d ω fun _ kvs => optW (txtKeys kvs) fun ts => NeedW (ts.length < 64) (∀ l : List (List Nat), l.Perm ts → (l.Pairwise fun x y => ltS y x = false) → Φ (.lst (l.map .str)) ω) := by
  show (kvW d ω fun _ kvs => optW (txtKeys kvs) fun ts => NeedW (ts.length < 64) (∀ l : List (List Nat), l.Perm ts → (l.Pairwise fun x y => ltS y x = false) → if false = true then _ else _)) = _
  simp
theorem y_endD {nx bk ct : En → Om → Prop} {rt : D → Om → Prop} {xc : Exn → En → Om → Prop} {i : Option Nat} : endD ⟨nx, rt, bk, ct, xc⟩ i = ⟨fun ρ ω => nx (delD ρ i) ω, rt, fun ρ ω => bk (delD ρ i) ω, fun ρ ω => ct (delD ρ i) ω, fun _ _ _ => False⟩ := rfl
theorem w_sifD {T1 : BT K} {S S2 : BS K} {nx bk ct : En → Om → Prop} {rt : D → Om → Prop} {xc : Exn → En → Om → Prop} (c : Prop) [Decidable c] (h : ∀ F : Bool → Om → Prop, F (decide c) ω → T1.w ρ ω F fun x ω1 => xc x ρ ω1) (q : c → S.w ρ ω ⟨nx, rt, bk, ct, xc⟩) (q2 : ¬ c → S2.w ρ ω ⟨nx, rt, bk, ct, xc⟩) : (bsIf T1 S S2).w ρ ω ⟨nx, rt, bk, ct, xc⟩ := by
  refine h _ ?_
  by_cases z : c
  · rw [decide_eq_true z]; exact iteT (q z)
  · rw [decide_eq_false z]; exact iteF (q2 z)
theorem insW_at {o : Option Cell} {fs : List (Str × D)} {F : Str → List (Str × D) → Prop} (h : o = some (.ins c fs)) (q : F c fs) : insW o F := by rw [h]; exact q
theorem cK_at {o : Option Cell} {kvs : List (Key × D)} {F : List (Key × D) → Prop} (h : o = some (.dk kvs)) (q : F kvs) : cK o F := by rw [h]; exact q
theorem cL_at {o : Option Cell} {ds : List D} {F : List D → Prop} (h : o = some (.lst ds)) (q : F ds) : cL o F := by rw [h]; exact q
theorem tyL_at {o : Option Cell} {ds : List D} {P : Prop} (h : o = some (.lst ds)) (q : P) : NeedW (tyC o = "list") P := by rw [h]; exact ⟨rfl, q⟩
theorem tyK_at {o : Option Cell} {kvs : List (Key × D)} {P : Prop} (h : o = some (.dk kvs)) (q : P) : NeedW (tyC o = "dict") P := by rw [h]; exact ⟨rfl, q⟩
theorem kv_at {o : Option Cell} {kvs : List (Key × D)} {F : List (Key × D) → Prop} (h : o = some (.dk kvs)) (q : F kvs) : optW (dkOf o) F := by rw [h]; exact q
end
end T

/-! == and != of two dicts. -/
namespace T
open PySem PySem.Spec PyProof.Rows L2
def flD : D → Bool
  | .non => true
  | .bl _ => true
  | .int _ => true
  | .str _ => true
  | _ => false
theorem flD_rep {K : Fg} {H : Hp} {v u : V} {d : D} (f : flD d = true) (r : Rep K H v d) (s : Rep K H u d) : v = u ∧ flatB v = true := by
  cases d <;> first | (cases f; done) | (cases r; cases s; exact ⟨rfl, rfl⟩)
/-- same dicts, or of other sizes -/
def rDk (neg : Bool) : R2 := fun x y H Q => ∃ a b ks ls, x = .ref a ∧ y = .ref b ∧ H a = some (.dK ks) ∧ H b = some (.dK ls) ∧
  ((ks.length = ls.length ∧ (∀ p ∈ ks, valV ls p.1 = some p.2 ∧ flatB p.2 = true) ∧ Q (.bl (!neg)) H) ∨ (ks.length ≠ ls.length ∧ Q (.bl neg) H))
section
variable {X : Cx}
theorem op_eqDk (hu : X.A.units < cLine) : OpR X (compareOp .Eq) (rDk false) := by
  intro pins s σ H x y v u Q I rx ry h
  obtain ⟨a, b, ks, ls, rfl, rfl, ea, eb, h⟩ := h
  rcases h with ⟨hl, hp, q⟩ | ⟨hn, q⟩
  · exact op_eq_dictA hu pins s σ H _ _ v u Q I rx ry ⟨a, b, ks, ls, rfl, rfl, ea, eb, hl, hp, q⟩
  · obtain rfl : v = Value.ref a := rx
    obtain rfl : u = Value.ref b := ry
    obtain ⟨_, ya, va, ra, da⟩ := (show ObjOk X.prog X.w H s.heap a (.dK ks) from I.hok a _ ea)
    obtain ⟨_, yb, vb, rb, db⟩ := (show ObjOk X.prog X.w H s.heap b (.dK ls) from I.hok b _ eb)
    have hl : va.length ≠ vb.length := by rw [← ra.length, ← rb.length]; exact hn
    exact PySem.W.keq_eq (knd := mixKind X.prog X.w) (r := true) ya yb da db hu (fun e => absurd e hl) (fin_bl I q (by simp [hl]))
theorem op_neDk (hu : X.A.units < cLine) : OpR X (compareOp .NotEq) (rDk true) := by
  intro pins s σ H x y v u Q I rx ry h
  obtain ⟨a, b, ks, ls, rfl, rfl, ea, eb, h⟩ := h
  rcases h with ⟨hl, hp, q⟩ | ⟨hn, q⟩
  · exact op_ne_dictA hu pins s σ H _ _ v u Q I rx ry ⟨a, b, ks, ls, rfl, rfl, ea, eb, hl, hp, q⟩
  · obtain rfl : v = Value.ref a := rx
    obtain rfl : u = Value.ref b := ry
    obtain ⟨_, ya, va, ra, da⟩ := (show ObjOk X.prog X.w H s.heap a (.dK ks) from I.hok a _ ea)
    obtain ⟨_, yb, vb, rb, db⟩ := (show ObjOk X.prog X.w H s.heap b (.dK ls) from I.hok b _ eb)
    have hl : va.length ≠ vb.length := by rw [← ra.length, ← rb.length]; exact hn
    exact PySem.W.keq_ne (knd := mixKind X.prog X.w) (r := true) ya yb da db hu (fun e => absurd e hl) (fin_bl I q (by simp [hl]))
end
theorem repK_atV {K : Fg} {H : Hp} : ∀ {xs : List (Key × V)} {ks : List (Key × D)} {i : Nat} {p : Key × V}, RepK K H xs ks → xs[i]? = some p → ∃ q, ks[i]? = some q ∧ q.1 = p.1 ∧ Rep K H p.2 q.2
  | _, _, _, _, .nil, e => by simp at e
  | _, _, 0, _, .cons h _, e => by simp at e; subst e; exact ⟨_, rfl, h.1.symm, h.2⟩
  | _, _, i + 1, p, .cons _ r, e => by
    obtain ⟨q, h1, h2⟩ := repK_atV (i := i) r (by simpa using e)
    exact ⟨q, by simpa using h1, h2⟩
/-- two dicts: the same, or of other sizes -/
def dkSame (ks ls : List (Key × D)) : Prop := ks.length = ls.length ∧ ∀ p ∈ ks, valD ls p.1 = some p.2 ∧ flD p.2 = true
section
variable {K : Fg}
def oDk (neg : Bool) : O2 K where
  r := rDk neg
  w := fun x y ω Φ => refW x fun a => refW y fun b => cK (ω a) fun ks => cK (ω b) fun ls => (dkSame ks ls ∧ Φ (.bl (!neg)) ω) ∨ (ks.length ≠ ls.length ∧ Φ (.bl neg) ω)
  ok := fun z x y d e Q Φ h k r1 r2 q => by
    obtain ⟨a, rfl, h⟩ := refW_iff.mp (show refW d _ from h)
    obtain ⟨b, rfl, h⟩ := refW_iff.mp (show refW e _ from h)
    obtain ⟨ks, hc, h⟩ := cK_iff.mp h
    obtain ⟨ls, hd, h⟩ := cK_iff.mp h
    cases r1; cases r2
    obtain ⟨_, xs, g1, g2⟩ := k.cell _ _ hc
    obtain ⟨_, ys, g3, g4⟩ := k.cell _ _ hd
    refine ⟨a, b, xs, ys, rfl, rfl, g1, g3, ?_⟩
    rcases h with ⟨⟨hl, hp⟩, h⟩ | ⟨hn, h⟩
    · refine .inl ⟨by rw [repK_len g2, repK_len g4]; exact hl, fun p hp' => ?_, q _ z _ k.to (.bl _) h⟩
      obtain ⟨i, hi⟩ := List.getElem?_of_mem hp'
      have := repK_atV g2 hi
      obtain ⟨q', e1, e2, e3⟩ := this
      obtain ⟨f1, f2⟩ := hp q' (List.mem_of_getElem? e1)
      rcases repK_val p.1 g4 with ⟨_, e5⟩ | ⟨u, d', e4, e5, e6⟩
      · rw [← e2, f1] at e5; cases e5
      · rw [← e2, f1] at e5
        cases e5
        obtain ⟨e7, e8⟩ := flD_rep f2 e3 e6
        exact ⟨by rw [e4, e7], e8⟩
    · exact .inr ⟨by rw [repK_len g2, repK_len g4]; exact hn, q _ z _ k.to (.bl _) h⟩
/-- == / != of two dicts, or of other things -/
def oEqOr : O2 K := oEq.or (oDk false) (fun x y ω Φ => (oEq : O2 K).w x y ω Φ ∨ (oDk false : O2 K).w x y ω Φ) fun _ _ _ _ h => h
def oNeOr : O2 K := oNe.or (oDk true) (fun x y ω Φ => (oNe : O2 K).w x y ω Φ ∨ (oDk true : O2 K).w x y ω Φ) fun _ _ _ _ h => h
theorem op_oEqDk {X : Cx} {k : Nat} (hr : Room k X.A) : OpR X (compareOp .Eq) (oDk (K := X.K) false).r := op_eqDk (by have := hr.un; omega)
theorem op_oNeDk {X : Cx} {k : Nat} (hr : Room k X.A) : OpR X (compareOp .NotEq) (oDk (K := X.K) true).r := op_neDk (by have := hr.un; omega)
theorem op_oEqOr {X : Cx} {k : Nat} (hr : Room k X.A) : OpR X (compareOp .Eq) (oEqOr (K := X.K)).r := (op_oEq (hq_of hr)).or (op_oEqDk hr)
theorem op_oNeOr {X : Cx} {k : Nat} (hr : Room k X.A) : OpR X (compareOp .NotEq) (oNeOr (K := X.K)).r := (op_oNe (hq_of hr)).or (op_oNeDk hr)
section
variable {ω : Om} {Φ : D → Om → Prop} {a b : Addr} {ks ls : List (Key × D)}
theorem dk_same {neg : Bool} (h1 : ω a = some (.dk ks)) (h2 : ω b = some (.dk ls)) (h : dkSame ks ls) (q : Φ (.bl (!neg)) ω) : (oDk neg : O2 K).w (.ref a) (.ref b) ω Φ :=
  show cK (ω a) _ from cK_at h1 (show cK (ω b) _ from cK_at h2 (.inl ⟨h, q⟩))
theorem dk_diff {neg : Bool} (h1 : ω a = some (.dk ks)) (h2 : ω b = some (.dk ls)) (h : ks.length ≠ ls.length) (q : Φ (.bl neg) ω) : (oDk neg : O2 K).w (.ref a) (.ref b) ω Φ :=
  show cK (ω a) _ from cK_at h1 (show cK (ω b) _ from cK_at h2 (.inr ⟨h, q⟩))
theorem dkSame_refl {ks : List (Key × D)} (nd : (ks.map (·.1)).Nodup) (h : ∀ p ∈ ks, flD p.2 = true) : dkSame ks ks := ⟨rfl, fun p hp => ⟨valD_nodup nd hp, h p hp⟩⟩
end
end
end T

/-! xs.remove(k), k there: numbers, texts. -/
namespace T
open PySem PySem.Spec PyProof.Rows L2
section
variable {α : Type} [DecidableEq α]
theorem firstA : ∀ {ns : List α} {k : α}, k ∈ ns → ∃ j, j < ns.length ∧ ns[j]? = some k ∧ (∀ i, i < j → ns[i]? ≠ some k) ∧ ns.eraseIdx j = ns.erase k
  | [], k, h => absurd h (by simp)
  | a :: r, k, h => by
    by_cases e : a = k
    · exact ⟨0, Nat.succ_pos _, by rw [e] <;> rfl, fun i hi => absurd hi (Nat.not_lt_zero _), by rw [e, List.erase_cons_head] <;> rfl⟩
    · have hr : k ∈ r := by
        rcases List.mem_cons.mp h with z | z
        · exact absurd z.symm e
        · exact z
      obtain ⟨j, h1, h2, h3, h4⟩ := firstA hr
      refine ⟨j + 1, Nat.succ_lt_succ h1, h2, fun i hi => ?_, ?_⟩
      · cases i with
        | zero =>
          intro z
          exact e (Option.some.inj z)
        | succ i => exact h3 i (Nat.lt_of_succ_lt_succ hi)
      · rw [List.erase_cons_tail (by rw [beq_iff_eq]; exact e), ← h4] <;> rfl
theorem map_eraseX {β : Type} (f : α → β) : ∀ (ns : List α) (j : Nat), (ns.map f).eraseIdx j = (ns.eraseIdx j).map f
  | [], _ => rfl
  | _ :: _, 0 => rfl
  | n :: r, j + 1 => by
    show f n :: (r.map f).eraseIdx j = f n :: (r.eraseIdx j).map f
    rw [map_eraseX f r j]
end
def rRem : V → List V → Hp → VK → Prop := fun x vs H Q => ∃ l, x = .ref l ∧ ((∃ (ns : List Int) (k : Int), vs = [.int k] ∧ H l = some (.lst (ns.map V.int)) ∧ k ∈ ns ∧ Q .non (upd H l (.lst ((ns.erase k).map V.int)))) ∨
  ∃ (ns : List Str) (k : Str), vs = [.str k] ∧ H l = some (.lst (ns.map V.str)) ∧ k ∈ ns ∧ Q .non (upd H l (.lst ((ns.erase k).map V.str))))
theorem isStr_at (k : Str) : ∀ {vs : List Value} {ns : List Str}, StrsAre vs ns → ∀ (i : Nat) (h : i < vs.length), isStrOf k vs[i] = true ↔ ns[i]? = some k
  | _, _, .nil, i, h => absurd h (by simp)
  | _, _, .cons n t hr, 0, _ => by
    show (n == k) = true ↔ some n = some k
    rw [beq_iff_eq, Option.some_inj]
  | _, _, .cons n t hr, i + 1, h => isStr_at k hr i (Nat.lt_of_succ_lt_succ h)
theorem mt_rem {X : Cx} : MtR X "list.remove" rRem := by
  intro pins s σ H x vs v us Q I rx rv h
  obtain ⟨l, rfl, h⟩ := h
  cases rx
  rcases h with ⟨ns, k, rfl, hH, hk, q⟩ | ⟨ns, k, rfl, hH, hk, q⟩
  · obtain ⟨u, rfl, ru⟩ := rv.one
    obtain ⟨t, rfl⟩ := (show ∃ t, u = Value.int k t from ru)
    obtain ⟨z, its, n, r, hl, e0⟩ := I.lstM hH
    have hi : IntsAre its ns := intsAre_of r
    have heq := eq_isInt k t hi
    have hnl : ns.length = its.length := by rw [← hl, List.length_map]
    have hsz : its.toArray.size ≤ sizeLine := by rw [List.size_toArray, ← hl]; exact z
    obtain ⟨j, j1, j2, j3, j4⟩ := firstA hk
    have hj : j < its.length := by omega
    refine call_meets PySem.F.slot_list_remove ⟨_, e0, rfl⟩ PySem.F.entry_list_remove (PySem.F.args_list_remove_2 _ _)
      (MeetsSeq.list_remove l its.toArray n (.int k t) (isInt k) (fun y hy => heq y (by simpa using hy)) j (by rw [List.size_toArray]; exact hj) ?hit (fun i hi2 hlt => ?hno) hsz) ⟨e0, ?_⟩
    case hit =>
      show isInt k its[j] = true
      exact (L2.isInt_at k hi j hj).mpr j2
    case hno =>
      have hi3 : i < its.length := by rw [List.size_toArray] at hi2; exact hi2
      show isInt k its[i] = false
      rw [Bool.eq_false_iff]
      intro w
      exact j3 i hlt ((L2.isInt_at k hi i hi3).mp w)
    have r2 : Vals ((ns.erase k).map V.int) (its.eraseIdx j) := by
      have w := r.eraseIdx j
      rw [map_eraseX, j4] at w
      exact w
    refine ⟨.non, _, I.lset (its' := its.eraseIdx j) hH e0 ?_ r2 ?_, rfl, q⟩
    · show its.toArray.eraseIdxIfInBounds j = (its.eraseIdx j).toArray
      rw [List.eraseIdxIfInBounds_toArray]
    · rw [List.length_map]
      have := List.length_erase_le (a := k) (l := ns)
      rw [List.length_map] at z
      omega
  · obtain ⟨u, rfl, ru⟩ := rv.one
    obtain ⟨t, rfl⟩ := (show ∃ t, u = Value.str k t from ru)
    obtain ⟨z, its, n, r, hl, e0⟩ := I.lstM hH
    have hi : StrsAre its ns := Vals.strs r
    have heq := eq_isStrOf k t hi
    have hnl : ns.length = its.length := by rw [← hl, List.length_map]
    have hsz : its.toArray.size ≤ sizeLine := by rw [List.size_toArray, ← hl]; exact z
    obtain ⟨j, j1, j2, j3, j4⟩ := firstA hk
    have hj : j < its.length := by omega
    refine call_meets PySem.F.slot_list_remove ⟨_, e0, rfl⟩ PySem.F.entry_list_remove (PySem.F.args_list_remove_2 _ _)
      (MeetsSeq.list_remove l its.toArray n (.str k t) (isStrOf k) (fun y hy => heq y (by simpa using hy)) j (by rw [List.size_toArray]; exact hj) ?hit2 (fun i hi2 hlt => ?hno2) hsz) ⟨e0, ?_⟩
    case hit2 =>
      show isStrOf k its[j] = true
      exact (isStr_at k hi j hj).mpr j2
    case hno2 =>
      have hi3 : i < its.length := by rw [List.size_toArray] at hi2; exact hi2
      show isStrOf k its[i] = false
      rw [Bool.eq_false_iff]
      intro w
      exact j3 i hlt ((isStr_at k hi i hi3).mp w)
    have r2 : Vals ((ns.erase k).map V.str) (its.eraseIdx j) := by
      have w := r.eraseIdx j
      rw [map_eraseX, j4] at w
      exact w
    refine ⟨.non, _, I.lset (its' := its.eraseIdx j) hH e0 ?_ r2 ?_, rfl, q⟩
    · show its.toArray.eraseIdxIfInBounds j = (its.eraseIdx j).toArray
      rw [List.eraseIdxIfInBounds_toArray]
    · rw [List.length_map]
      have := List.length_erase_le (a := k) (l := ns)
      rw [List.length_map] at z
      omega
section
variable {K : Fg}
theorem erase_sOf (s : List Nat) : ∀ ts : List (List Nat), (ts.map sOf).erase (sOf s) = (ts.erase s).map sOf
  | [] => rfl
  | t :: ts => by
    by_cases e : t = s
    · subst e
      rw [List.map_cons, List.erase_cons_head, List.erase_cons_head]
    · rw [List.map_cons, List.erase_cons_tail (by rw [beq_iff_eq]; intro z; have := congrArg cs z; rw [cs_sOf2, cs_sOf2] at this; exact e this), erase_sOf s ts, List.erase_cons_tail (by rw [beq_iff_eq]; exact e)]; rfl
def m_remove : BM K where
  r := rRem
  w := fun x xs ω Φ => match x, xs with
    | .ref a, [.int k] => cL (ω a) fun ds => optW (intsOf ds) fun ns => NeedW (k ∈ ns) (Φ .non (ω.set a (.lst ((ns.erase k).map .int))))
    | .ref a, [.str k] => cL (ω a) fun ds => optW (strsOf ds) fun ns => NeedW (k ∈ ns) (Φ .non (ω.set a (.lst ((ns.erase k).map .str))))
    | _, _ => False
  ok := fun z x xs d ds Q Φ h k r rs q => by
    split at h
    · cases r
      rename_i k'
      obtain ⟨es, hc, h⟩ := cL_iff.mp h
      obtain ⟨ns, h2, h⟩ := optW_iff.mp h
      obtain ⟨y, rfl, ry⟩ := rep1 rs
      cases ry
      obtain ⟨_, ys, g1, g2⟩ := k.cell _ _ hc
      rw [intsOf_eq h2] at g2
      rw [RepL.ints g2] at g1
      have t := k.put (o := .lst ((ns.erase k').map V.int)) (c' := .lst ((ns.erase k').map .int)) hc ⟨_, upd_same, RepL.of_ints _⟩
      exact ⟨_, rfl, .inl ⟨ns, k', rfl, g1, h.1, q _ _ _ t .non h.2⟩⟩
    · cases r
      rename_i k'
      obtain ⟨es, hc, h⟩ := cL_iff.mp h
      obtain ⟨ns, h2, h⟩ := optW_iff.mp h
      obtain ⟨y, rfl, ry⟩ := rep1 rs
      cases ry
      obtain ⟨_, ys, g1, g2⟩ := k.cell _ _ hc
      rw [strsOf_eq h2] at g2
      rw [RepL.strs g2] at g1
      have t := k.put (o := .lst (((ns.erase k').map sOf).map V.str)) (c' := .lst ((ns.erase k').map .str)) hc ⟨_, upd_same, RepL.of_strs _⟩
      refine ⟨_, rfl, .inr ⟨ns.map sOf, sOf k', rfl, g1, List.mem_map.mpr ⟨k', h.1, rfl⟩, ?_⟩⟩
      rw [erase_sOf]
      exact q _ _ _ t .non h.2
    · exact h.elim
theorem mt_remove_ {X : Cx} : MtR X "list.remove" (m_remove (K := X.K)).r := mt_rem
theorem y_remI {ω : Om} {Φ : D → Om → Prop} {a : Addr} {k : Int} : (m_remove : BM K).w (.ref a) [.int k] ω Φ = cL (ω a) fun ds => optW (intsOf ds) fun ns => NeedW (k ∈ ns) (Φ .non (ω.set a (.lst ((ns.erase k).map .int)))) := rfl
theorem y_remS {ω : Om} {Φ : D → Om → Prop} {a : Addr} {k : List Nat} : (m_remove : BM K).w (.ref a) [.str k] ω Φ = cL (ω a) fun ds => optW (strsOf ds) fun ns => NeedW (k ∈ ns) (Φ .non (ω.set a (.lst ((ns.erase k).map .str)))) := rfl
end
/-- items of a list that stays, whatever else changes -/
theorem it_keep {ω : Om} {L : D} {ds : List D} {F : List D → (Om → Prop) → Om → Prop} (h : lstOf ω L = some ds) (q : ∀ chk : Om → Prop, (∀ ω' : Om, (∀ b es, ω b = some (.lst es) → ω' b = some (.lst es)) → chk ω') → F ds chk ω) : itemsW L ω F := by
  rcases lst_two h with rfl | ⟨a, rfl, ha⟩
  · exact q _ fun _ _ => trivial
  · exact ⟨ds, ha, q _ fun ω' g => g a ds ha⟩
section
variable {K : Fg} {ω : Om} {Φ : D → Om → Prop}
theorem any_txt (n : List Nat) : ∀ th : List (List Nat), ((th.map D.str).any fun e => deq e (.str n)) = decide (n ∈ th)
  | [] => by simp
  | t :: th => by
    rw [List.map_cons, List.any_cons, any_txt n th]
    rw [Bool.eq_iff_iff]
    simp only [deq, Bool.or_eq_true, beq_iff_eq, decide_eq_true_eq, List.mem_cons]
    exact ⟨fun z => z.imp Eq.symm id, fun z => z.imp Eq.symm id⟩
theorem txt_dok {th : List (List Nat)} (h : ∀ t ∈ th, t.all (· < 0x110000) = true) : dOk 1 (.lst (th.map .str)) := dOk_lst fun d hd => by
  obtain ⟨t, ht, rfl⟩ := List.mem_map.mp hd
  exact dOk_str (h t ht)
/-- a text among texts -/
theorem in_txt {L : D} {n : List Nat} {th : List (List Nat)} (hL : lstOf ω L = some (th.map .str)) (hn : n.all (· < 0x110000) = true) (h : ∀ t ∈ th, t.all (· < 0x110000) = true) (q : Φ (.bl (decide (n ∈ th))) ω) : (oInD : O2 K).w (.str n) L ω Φ := by
  have ok := txt_dok h
  show inDW false _ _ ω Φ
  rw [inDW_Rs (.base (d := .str n) hn) (rs_lst hL (by have := ok.1; simp only [eqD] at this; exact this)) (by simp [dpt]) (Nat.le_trans ok.2 (by omega)), any_txt]
  exact q
theorem nin_txt {L : D} {n : List Nat} {th : List (List Nat)} (hL : lstOf ω L = some (th.map .str)) (hn : n.all (· < 0x110000) = true) (h : ∀ t ∈ th, t.all (· < 0x110000) = true) (q : Φ (.bl (!decide (n ∈ th))) ω) : (oNinD : O2 K).w (.str n) L ω Φ := by
  have ok := txt_dok h
  show inDW true _ _ ω Φ
  rw [inDW_Rs (.base (d := .str n) hn) (rs_lst hL (by have := ok.1; simp only [eqD] at this; exact this)) (by simp [dpt]) (Nat.le_trans ok.2 (by omega)), any_txt]
  exact q
theorem at_last {α : Type} (l : List α) (x : α) : atI (l ++ [x]) (-1) = some x := by
  unfold atI
  have : seqIndex? (-1) (l ++ [x]).length = some l.length := by
    unfold seqIndex?
    simp
    omega
  have e : ixN (l ++ [x]).length (-1) = some l.length := by
    unfold ixN
    simp
    try omega
  rw [e]
  simp
end
end T

/-! While an exception is handled: defs that ask for nothing, a raise out of a suite. -/
namespace T
open PySem PySem.Spec PyProof.Rows L2
abbrev RoomH := L2H.RoomH
theorem hq_ofH {A : Around} {k : Nat} (hr : RoomH k A) : A.units + 64 < cLine := by have := hr.un; omega
theorem hu_ofH {A : Around} {k : Nat} (hr : RoomH k A) : A.units + 1 < cLine := by have := hr.un; omega
theorem hu65H {A : Around} {k : Nat} (hr : RoomH k A) : A.units + 65 < cLine := by have := hr.un; omega
/-- a def that runs whatever is handled, and raises nothing -/
structure FnQ (P : Program) (w : World) (K : PySem.W.Frag) (mg : Str → Option Value) (base : Heap) (k : Nat) (f : Addr) (fd : FuncData) (ps : List Str) (sp : Sp) : Prop where
  len : ∀ vs H Q E, sp vs H Q E → vs.length = ps.length
  run : ∀ (A : Around) (outer : List Env) (s : Shared) (H : Hp) (args : Args) (us : List Value) (vs : List V) (Q : VK) (E : XK), RoomH k A → Env0 P w K mg base A outer s H → BindsTo s fd args (ps.zip us) → Vals vs us → sp vs H Q E →
    codeAny (model P w) A (.call (.ref f) args) (CR CX0 outer P w H s Q E) s
def cxQ (P : Program) (w : World) (K : PySem.W.Frag) (mg : Str → Option Value) (base : Heap) (N : List Str) (qual : Str) (scope : Scope) (f : Addr) (cd : Value) (A : Around) (outer : List Env) (s : Shared) (H : Hp) (E : XK) : Cx :=
  { cxOf CX0 P w K mg base N qual scope f cd A outer s H E with calm := false }
section
variable {P : Program} {w : World} {K : PySem.W.Frag} {mg : Str → Option Value} {base : Heap}
theorem inv_startQ {N ps : List Str} {qual : Str} {scope : Scope} {f : Addr} {cd : Value} {A : Around} {outer : List Env} {s s1 : Shared} {H : Hp} {E : XK} {us : List Value} {vs : List V}
    (S : FnScope N ps scope) (e0 : Env0 P w K mg base A outer s H) (hl : vs.length = ps.length) (r : Vals vs us)
    (x : InCallC s s.heap.objs.size (bindL (envOfC qual scope s.heap.objs.size f cd).kindOf (ps.zip us) fun _ => none) (cellsFrom (s.heap.objs.size + 1) scope.names []) (bindC (envOfC qual scope s.heap.objs.size f cd).kindOf (ps.zip us) fun _ => none) s1) :
    Inv (cxQ P w K mg base N qual scope f cd A outer s H E) [] (L2.start N vs) H s1 := by
  have lp : ps.length ≤ N.length := by have := congrArg List.length S.pre; rw [List.length_take] at this; omega
  obtain ⟨h1, tk, rfl, hk⟩ := x.done
  have ne : ∀ b : Addr, b ∉ (cxQ P w K mg base N qual scope f cd A outer s H E).ex := fun b z => absurd (show b ∈ ([] : List Addr) from z) (by simp)
  refine ⟨⟨e0.mod, S.kind, rfl, rfl, Nat.le_refl _, fun y z c h1 h2 => ?_, fun y hy => ?_, fun y c _ h => ?_, (fun z => Bool.noConfusion (show false = true from z)), Around.frames_deeper e0.frames, .inr ⟨rfl, rfl⟩, fun b z => absurd z (ne b), e0.bs, e0.bsz, fun b _ _ => ne b, fun b z => absurd z (ne b), e0.funs, e0.frf⟩,
    rfl, e0.bare, Un.kept hk, ⟨_, x.toInCall.ns, fun i y v h1 h2 h3 => ?_⟩, fun y c h => ⟨_, x.cell y c h⟩, e0.hok.fresh (Nat.le_refl _), fun y c h => ?_, fun q hq => ?_, e0.hok.kept hk, ?_⟩
  · exact name_of_addr x.apart (PySem.mem_of_lookup h1) (PySem.mem_of_lookup h2)
  · have hy : scope.names.lookup y = some .cell ∨ scope.names.lookup y = some .free := hy
    rcases hy with hy | hy
    · exact cell_has hy
    · exact absurd rfl (S.nofree _ (PySem.mem_of_lookup hy))
  · exact Nat.le_of_lt (x.above y c (PySem.mem_of_lookup h))
  · have hi : i < vs.length := by
      unfold L2.start at h2
      by_cases hi : i < vs.length
      · exact hi
      · rw [List.getElem?_append_right (by simpa using hi), List.getElem?_replicate] at h2
        split at h2 <;> cases h2
    have ha : vs[i]? = some v := by
      unfold L2.start at h2
      rw [List.getElem?_append_left (by simpa using hi), List.getElem?_map] at h2
      cases e : vs[i]? with
      | none => rw [e] at h2; cases h2
      | some a => rw [e] at h2; cases h2; rfl
    obtain ⟨u, hu, rv⟩ := r.get ha
    have hp : ps[i]? = some y := by rw [← S.pre, List.getElem?_take_of_lt (by omega)]; exact h1
    have nd : ps.Nodup := by rw [← S.pre]; exact S.nd.sublist (List.take_sublist _ _)
    refine ⟨u, rv, ?_⟩
    rcases S.par y (List.mem_of_getElem? hp) with k | k
    · exact .inl ⟨k, bindL_get nd hp hu k⟩
    · obtain ⟨c, e⟩ := cell_has (n := s.heap.objs.size + 1) k
      refine .inr ⟨.inl k, c, e, ?_⟩
      have q := x.cell y c e
      rw [bindC_get nd hp hu (by show scope.names.lookup y ≠ _; rw [k]; decide)] at q
      exact q
  · exact e0.hok.fresh (Nat.le_of_lt (x.above y c (PySem.mem_of_lookup h)))
  · exact absurd (show q ∈ ([] ++ [] : List (Addr × Obj)) from hq) (by simp)
  · unfold L2.start
    show _ = N.length
    rw [List.length_append, List.length_map, List.length_replicate]
    omega
theorem fn_ofQ {k : Nat} {f : Addr} {name qual : Str} {params : Arguments} {body : List Stmt} {scope : Scope} {dV kV doc pm cdv ct oc : Value} {an od : Option Addr}
    {osl : Array (Option Value)} {N ps : List Str} {sp : Sp} (lk : K.lookup f = some ⟨oc, od, .func (PySem.W.fnOf name qual params body scope dV kV doc pm an cdv ct), osl⟩) (hcd : PySem.W.codeIn K cdv qual = true) (S : FnScope N ps scope)
    (len : ∀ vs H Q E, sp vs H Q E → vs.length = ps.length)
    (hbody : ∀ (A : Around) (outer : List Env) (s : Shared) (H : Hp) (vs : List V) (Q : VK) (E : XK), RoomH k (A.deeper (envOfC qual scope s.heap.objs.size f cdv)) → sp vs H Q E →
      ∃ t, PSs (cxQ P w K mg base N qual scope f cdv A outer s H E) body t ∧ t { nx := fun _ H' => Q .non H', rt := Q } (L2.start N vs) H) :
    FnQ P w K mg base (k + 1) f (PySem.W.fnOf name qual params body scope dV kV doc pm an cdv ct) ps sp := by
  refine ⟨len, fun A outer s H args us vs Q E hr e0 hb r hsp => ?_⟩
  have hl := len _ _ _ _ hsp
  have KX : K.In s.heap := e0.mod.kin.keeps fun b o e => (e0.bs b o e).1
  have lim : s.heap.NoLimit := e0.mod.nolimit.keeps fun b o e => (e0.bs b o e).1
  have hkind : ∀ y ∈ ps.zip us, scope.names.lookup y.1 = some .local ∨ (scope.names.lookup y.1 = some .cell ∧ ((cellsFrom (s.heap.objs.size + 1) scope.names []).lookup y.1).isSome = true) := fun ⟨n, v⟩ hy => by
    rcases S.par n (List.of_mem_zip hy).1 with q | q
    · exact .inl q
    · exact .inr ⟨q, PySem.W.cellsFrom_some _ _ _ (.inl q)⟩
  refine codeAny_call_function hr.depth (KX _ _ lk) rfl S.co S.gen rfl (PySem.W.codeRec_of KX hcd) (hb _ _ _ _ ?_)
  refine wpAny_newFunctionEnv_cells S.kind hkind fun env he s1 x => ?_
  subst he
  refine ⟨lim.keeps x.toInCall.keep, codeAny_func ?_⟩
  obtain ⟨t, ht, hq⟩ := hbody A outer s H vs Q E (hr.deeper _) hsp
  have I : Inv (cxQ P w K mg base N qual scope f cdv A outer s H E) [] (L2.start N vs) H s1 := inv_startQ S e0 hl r x
  refine wpAny_mono (ht.run [] s1 (L2.start N vs) H _ I hq) (fun fl s' hs => ?_) fun e s' hs => hs
  have fin : ∀ {σ' : L2.St} {H' : Hp} {v : V} {u : Value}, Inv (cxQ P w K mg base N qual scope f cdv A outer s H E) [] σ' H' s' → RelV v u → Q v H' → CE outer P w H s Q u s' :=
    fun {σ' H' v u} J rv q => ⟨v, H', J.os, J.bare, J.base, J.hok, rv, q⟩
  cases fl with
  | ret u =>
    obtain ⟨v, σ', H', J, rv, q⟩ := hs
    exact fin J rv q
  | next =>
    obtain ⟨σ', H', J, q⟩ := hs
    exact fin (v := V.non) (u := Value.none) J rfl q
  | brk => exact False.elim hs.choose_spec.choose_spec.2
  | cont => exact False.elim hs.choose_spec.choose_spec.2
end
section
variable {X : Cx} {k : Nat} {f C : Addr} {fd : FuncData} {ps : List Str} {sp : Sp} {E : XK} {x : Str} {q pos : Pos} {e : Expr} {es : List Expr} {t : TA}
theorem run_fnQ {pins : List (Addr × Obj)} {σ : L2.St} {H : Hp} {s : Shared} {Q : VK} {us : List Value} {vs : List V} (F : FnQ X.prog X.w X.K X.mg X.base k f fd ps sp) (hr : RoomH k X.A) (hb : Binds X.K fd ps [])
    (I : Inv X pins σ H s) (r : Vals vs us) (h : sp vs H Q E) : wpAny (model X.prog X.w) X.A (call (.ref f) us) (EP X pins σ Q) X.xe s := by
  have hl : us.length = ps.length := by rw [← r.length]; exact F.len _ _ _ _ h
  have b := hb s us I.kIn (by rw [List.append_nil]; exact hl)
  rw [List.append_nil] at b
  refine wpAny_call (codeAny_mono (F.run X.A X.stack s H ⟨us, []⟩ us vs Q E hr I.env0 b r h) fun r s' hq => ?_)
  cases r with
  | error e => exact False.elim hq
  | ok fl =>
    cases fl with
    | ret u => exact I.after hq
    | next => exact False.elim hq
    | brk => exact False.elim hq
    | cont => exact False.elim hq
theorem pe_callQ (F : FnQ X.prog X.w X.K X.mg X.base k f fd ps sp) (hr : RoomH k X.A) (hg : Gl X x) (hm : X.mg x = some (.ref f)) (hk : PySem.W.keepIn X.K (.ref f) = true) (hb : Binds X.K fd ps [])
    (ha : PA X (e :: es) t) (hdb : (x == ("__debug__" : Str)) = false := by decide) (he : starEach (e :: es) X.env = (false, eval e X.env) :: starEach es X.env := by rfl) (hpl : (backTo pos (starEach es X.env)).any (·.1) = false := by rfl) :
    PE X (.Call (.Name x q) (e :: es) [] pos) (tCall sp [] E t) := by
  refine ⟨fun pins s σ H Q I h => ?_⟩
  refine wpAny_Call_Name_kw (ld_glob I hg hm ?_ hdb)
  refine PySem.W.callWith_K (h₀ := X.base) I.ok.mod.kin hk (thn (ha.run pos pins s σ H _ I h) fun us s1 ⟨vs, H1, I1, r, q⟩ => ⟨I1.kIn, ?_⟩) he hpl
  have q : sp (vs ++ []) H1 Q E := q
  rw [List.append_nil] at q
  exact run_fnQ F hr hb I1 r q
end
/-! ### over data -/
section
variable {P : Program} {w : World} {K : Fg} {mg : Str → Option Value} {base : Heap}
/-- a def that runs whatever is handled -/
def OkQ (P : Program) (w : World) (K : Fg) (mg : Str → Option Value) (base : Heap) (k : Nat) (p : Str × Option Str) (ps : List Str) (W : WP) : Prop :=
  ∃ fd, FnQ P w K mg base k (He.fAd K p) fd ps (SpP K W) ∧ Binds K fd ps []
theorem fnQD {name qual : Str} {st : Stmt} {p : Str × Option Str} {N ps : List Str} {k : Nat} (F : FnD K name qual st [] p) (S : FnScope N ps (defScope st)) {W : WP} {n : Nat} (hn : N.length = n) (B : BS K)
    (hbi : ∀ (kV doc pm : Value) (an : Option Addr) (cdv ct : Value) (us : List Value), us.length = ps.length → bindArgs (PySem.W.fnOf name qual (defArgs st) (defBody st) (defScope st) .none kV doc pm an cdv ct) ⟨us, []⟩ = pure (ps.zip us))
    (len : ∀ ds ω Φ, W ds ω Φ → ds.length = ps.length)
    (hb : ∀ (f : Addr) (cdv : Value) (A : Around) (outer : List Env) (s : Shared) (H : Hp) (E : XK), RoomH k (A.deeper (PyProof.Rows.envOfC qual (defScope st) s.heap.objs.size f cdv)) → PSs (cxQ P w K mg base N qual (defScope st) f cdv A outer s H E).nox (defBody st) (B.t W0))
    (hw : ∀ ds ω Φ, W ds ω Φ → B.w (startD n ds) ω ⟨fun _ ω => Φ .non ω, Φ, fun _ _ => False, fun _ _ => False, fun _ _ _ => False⟩) : OkQ P w K mg base (k + 1) p ps W := by
  obtain ⟨fd, F⟩ := F
  have bi := F.bindsN hbi
  obtain ⟨oc, od, _, _, _, _, _, cdv, _, osl, rfl, lk, hcd, _⟩ := F.ex
  refine ⟨_, fn_ofQ lk hcd S (fun vs H Q E h => ?_) (fun A outer s H vs Q E hr h => ⟨B.t W0, PSs.nox (hb _ cdv A outer s H E hr), ?_⟩), bi⟩
  · obtain ⟨z, ds, Φ, _, _, r, hW, _⟩ := h
    rw [r.length]
    exact len ds _ _ hW
  · obtain ⟨z, ds, Φ, rfl, ok, r, hW, q⟩ := h
    subst hn
    exact B.ok W0 (startD N.length ds) z (L2.start N vs) _ _ (hw ds z.o Φ hW) ok (rep_start r) ⟨fun σ2 ρ2 z2 t _ h2 => q .non z2 .non t .non h2, fun v d z2 t r2 h2 => q v z2 d t r2 h2, fun _ _ _ _ _ h => h.elim, fun _ _ _ _ _ h => h.elim, fun _ _ _ _ _ _ _ _ _ h => h.elim⟩
/-- an __init__ that runs whatever is handled -/
def OkIQ (P : Program) (w : World) (K : Fg) (mg : Str → Option Value) (base : Heap) (c f : Str) : Prop :=
  ∃ fd par, FnQ P w K mg base 1 (He.fAd K (c, some "__init__")) fd ["self", par] (spInit K (He.ga K c) f) ∧ Binds K fd ["self", par] []
theorem init_okQ {l : ECls} {c f par qual m : Str} {st : Stmt} (XF : XFs K l) (hl : (c, some f) ∈ l) (F : FnD K "__init__" qual st [] (c, some "__init__")) (S : FnScope ["self", par] ["self", par] (defScope st))
    (hder : ∀ (cdv : Value) (A : Around) (outer : List Env) (s : Shared) (H : Hp) (E : XK), PSs (cxQ P w K mg base ["self", par] qual (defScope st) (He.fAd K (c, some "__init__")) cdv A outer s H E) (defBody st) (tSeq (tDrop (tVeI K (tCons (tVar 0) (tCons (tC (.str m)) tNil)))) (tOst K f (tVar 0) (tVar 1))))
    (hbi : ∀ (kV doc pm : Value) (an : Option Addr) (cdv ct : Value) (us : List Value), us.length = (["self", par] : List Str).length → bindArgs (PySem.W.fnOf "__init__" qual (defArgs st) (defBody st) (defScope st) .none kV doc pm an cdv ct) ⟨us, []⟩ = pure ((["self", par] : List Str).zip us)) :
    OkIQ P w K mg base c f := by
  obtain ⟨fd, F⟩ := F
  have bi := F.bindsN hbi
  obtain ⟨O1, O2, O3, O4⟩ := XF.fld hl
  obtain ⟨oc, od, _, _, _, _, _, cdv, _, osl, rfl, lk, hcd, _⟩ := F.ex
  refine ⟨_, par, fn_ofQ (k := 0) lk hcd S (fun vs H Q E h => ?_) (fun A outer s H vs Q E hr h => ⟨_, hder cdv A outer s H E, ?_⟩), bi⟩
  · obtain ⟨a, v, rfl, _⟩ := h; rfl
  · obtain ⟨a, v, rfl, ha, q⟩ := h
    refine ⟨.ref a, rfl, a, He.ga K c, [.str m], rfl, by simp, O1, ha, v, rfl, .ref a, rfl, a, He.ga K c, rfl, O1, O4, .inl ⟨ha, fun dx n ne => q dx n ne⟩⟩
end
section
variable {X : Cx} {W : WX} {x : Str} {e : Expr} {es : List Expr} {As : BA X.K} {p pos : Pos}
theorem P_callQ {k : Nat} {ps : List Str} {Wf : WP} (F : OkQ X.prog X.w X.K X.mg X.base k (x, none) ps Wf) (hr : RoomH k X.A) (hm : X.mg x = some (.ref (He.ga X.K x))) (hk : PySem.W.keepIn X.K (.ref (He.ga X.K x)) = true)
    (ha : PA X (e :: es) (As.t W)) (hg : Gl X x := by rfl) (hdb : (x == ("__debug__" : Str)) = false := by decide) (he : starEach (e :: es) X.env = (false, eval e X.env) :: starEach es X.env := by rfl) (hpl : (backTo pos (starEach es X.env)).any (·.1) = false := by rfl) :
    PE X (.Call (.Name x p) (e :: es) [] pos) ((bCall0 Wf As).t W) := by
  obtain ⟨fd, F1, F2⟩ := F
  exact pe_callQ F1 hr hg hm hk F2 ha hdb he hpl
/-- C(e), while an exception is handled -/
theorem pmk_oexQ {ta : TA} {C fI : Addr} {k : Nat} {fd : FuncData} {ps : List Str} {sp : Sp} (O : OexC X.K C) (iC : PySem.W.findIn X.K (.ref C) "__init__" = some (some (.ref fI))) (tI : PySem.W.typeIn X.K (.ref fI) = some (.type "function"))
    (F1 : FnQ X.prog X.w X.K X.mg X.base k fI fd ps sp) (hr : RoomH (k + 1) X.A) (hb : Binds X.K fd ps []) (hg : Gl X x) (hm : X.mg x = some (.ref C)) (ha : PA X (e :: es) ta)
    (hdb : (x == ("__debug__" : Str)) = false := by decide) (he : starEach (e :: es) X.env = (false, eval e X.env) :: starEach es X.env := by rfl) (hpl : (backTo pos (starEach es X.env)).any (·.1) = false := by rfl) :
    L2N.PMk X (.Call (.Name x p) (e :: es) [] pos) (tMkO C sp [] ta) := by
  intro qs s0 τ G R J h
  obtain ⟨nm, q, N, bs, bm, sn, sub, ab, col, dd, k0, k1, k2, k3, k5, hC, hbm⟩   := O.cls
  refine wpAny_Call_Name_kw (ld_glob J hg hm ?_ hdb)
  refine PySem.W.callWith_K (h₀ := X.base) J.ok.mod.kin O.kC (thn (ha.run pos qs s0 τ G _ J h) fun us s1 hh => ?_) he hpl
  obtain ⟨vs, H1, J1, r1, hz, q1⟩ := hh
  refine ⟨J1.kIn, ?_⟩
  show wpAny _ _ (call (.ref C) us) _ _ _
  obtain ⟨hp, g, dr, tk, os⟩ := s1
  have up : hp.objs.size ≤ hp.objs.size + 1 := Nat.le_succ _
  have hq := q1 (hp.objs.size + 1) (J1.hok.fresh up)
  rw [List.append_nil] at hq
  have kk : ∀ b o, hp.get? b = some o → ((hp.push (PySem.W.kdv_tup us)).push (PySem.HandSPX.excO C hp.objs.size)).get? b = some o := fun b o e => Heap.get?_push_of_some _ (Heap.get?_push_of_some _ e)
  have I2 : Inv X qs τ (upd H1 (hp.objs.size + 1) (exo (hp.objs.size + 1) C none)) ⟨(hp.push (PySem.W.kdv_tup us)).push (PySem.HandSPX.excO C hp.objs.size), g, dr, tk, os⟩ :=
    J1.laid (t' := tk) (a := hp.objs.size + 1) (o := exo (hp.objs.size + 1) C none) (h' := (hp.push (PySem.W.kdv_tup us)).push (PySem.HandSPX.excO C hp.objs.size)) kk up (exo_ok (by heap_get))
  have r2 : Vals (V.ref (hp.objs.size + 1) :: vs) (Value.ref (hp.objs.size + 1) :: us) := .cons rfl r1
  have hl : (Value.ref (hp.objs.size + 1) :: us).length = ps.length := by
    have e := r2.length
    rw [F1.len _ _ _ _ hq] at e
    exact e.symm
  have hb2 := hb _ (Value.ref (hp.objs.size + 1) :: us) I2.kIn (by rw [List.append_nil]; exact hl)
  rw [List.append_nil] at hb2
  have hus : us.length ≤ sizeLine := by rw [← Paired.length r1, sizeLine_eq]; omega
  refine wpAny_call (PySem.HandSPX.call_own F.excBase_ValueError (fun Y => PySem.HandSPX.refsVE_contains Y bm hbm) (J1.kIn _ _ hC) (PySem.W.looks_findIn J1.kIn iC) (fun self => PySem.W.bind_fn J1.kIn self tI) hus
    (codeAny_mono (F1.run _ X.stack _ _ ⟨Value.ref (hp.objs.size + 1) :: us, []⟩ (Value.ref (hp.objs.size + 1) :: us) _ _ (fun _ _ _ => False) (L2H.RoomH.make hr C us []) (I2.env0.make C us []) hb2 r2 hq) fun r s' hq' => ?_))
  cases r with
  | error er => exact False.elim hq'
  | ok fl =>
    cases fl with
    | ret u =>
      obtain ⟨v, H2, os2, bare2, un2, hok2, rv, ev, d, fs, ea, ed, hd1, q2⟩ := hq'
      subst ev
      obtain ⟨h2, g2, d2, t2, os'⟩ := s'
      obtain ⟨t0, Gh, J2, kG, ge, hoe, na⟩ := mk_end0 (d2 := d2) (t2 := t2) J1 up kk un2 hok2 os2 bare2 ea ed hd1
      refine ⟨rv, ?_⟩
      refine ⟨hp.objs.size + 1, _, _, ⟨Gh, g2, d2, t2, os'⟩, _, .ref C, some d, rfl, J2, kG, ge, hoe, ⟨rfl, rfl, fun w e => ?_⟩, rfl, rfl, na, rfl, bare2, raises_own O.exC O.tyC, q2⟩
      cases e; rfl
    | next => exact False.elim hq'
    | brk => exact False.elim hq'
    | cont => exact False.elim hq'
end
section
variable {X : Cx} {W : WX} {l : ECls} {e : Expr} {A : BE X.K}
/-- raise C(e) in a suite -/
theorem S_raiseQ {c f : Str} {p pos pos' : Pos} (F : XFs X.K l) (OI : OkIQ X.prog X.w X.K X.mg X.base c f) (hr : RoomH 2 X.A) (hc : L2H.HotC X) (tk : L2.Takes X W) (gC : X.mg c = some (.ref (He.ga X.K c))) (ha : PE X e (A.t W)) (hl : (c, some f) ∈ l := by decide) (hg : Gl X c := by rfl)
    (hdb : (c == ("__debug__" : Str)) = false := by decide) (he : starEach [e] X.env = (false, eval e X.env) :: starEach [] X.env := by rfl) : PS X (.Raise (some (.Call (.Name c p) [e] [] pos)) none pos') ((bsRaiseF c f A).t W) := by
  obtain ⟨O1, O2, O3, O4⟩ := F.fld hl
  obtain ⟨fd, par, F1, F2⟩ := OI
  exact L2H.ps_raiseH hc tk (pmk_oexQ O1 O2 O3 F1 hr F2 hg gC (pa_cons ha pa_nil he) hdb he rfl)
end
/-! ### try, a suite that raises -/
def wTryR (K : Fg) (V : WX) (D : Ends) (c : Str) (R : BS K) (l : ECls) : WX := fun cls d σ H => ∃ c0, inL l c0 = true ∧ cls = .ref (He.ga K c0) ∧ if subX c0 c = true then R.t V D σ H else V cls d σ H
/-- try: S; except c: R, with R within what the context takes -/
def bsTryR {K : Fg} (l : ECls) (c : Str) (S R : BS K) : BS K where
  t := fun V D σ H => S.t (wTryR K V D c R l) D σ H
  w := fun ρ ω k => S.w ρ ω { k with xc := fun x ρ1 ω1 => inL l x.c = true ∧ if subX x.c c = true then R.w ρ1 ω1 k else k.xc x ρ1 ω1 }
  ok := fun V ρ z σ D' k h ok r hk => by
    refine S.ok _ ρ z σ D' _ h ok r ⟨hk.nx, hk.rt, hk.bk, hk.ct, fun x cls d σ2 ρ2 z2 t r2 rx h2 => ?_⟩
    obtain ⟨h2, h3⟩ := h2
    refine ⟨x.c, h2, rx.1, ?_⟩
    by_cases q : subX x.c c = true
    · rw [if_pos q] at h3 ⊢
      exact R.ok V ρ2 z2 σ2 D' k h3 t.ok r2 (hk.to t)
    · rw [if_neg q] at h3 ⊢
      exact hk.xc _ _ _ _ _ _ t r2 rx h3
theorem x_tryR {K : Fg} {l : ECls} {c : Str} {S R : BS K} {ρ : En} {ω : Om} {k : KD} : (bsTryR l c S R).w ρ ω k = S.w ρ ω ⟨k.nx, k.rt, k.bk, k.ct, fun x ρ1 ω1 => inL l x.c = true ∧ if subX x.c c = true then R.w ρ1 ω1 k else k.xc x ρ1 ω1⟩ := rfl
section
variable {X : Cx} {W : WX} {l : ECls}
theorem takes_imp {V V' : WX} (hv : ∀ cls d σ H, V' cls d σ H → V cls d σ H) (t : L2N.Takes X V) : TakesK true X V' := by
  rintro u s2 ⟨a, B, sI, pins, σ, H, cls, d, e1, e2, e3, e4, e5, e6, e7, e8, e9⟩
  exact t u s2 ⟨a, B, sI, pins, σ, H, cls, d, e1, e2, e3, e4, e5, e6, e7, e8, hv _ _ _ _ e9⟩
theorem S_tryR {c : Str} {S R : BS X.K} {body su : List Stmt} {b0 : Stmt} {np p' pos : Pos} (F : XFs X.K l) (tk : L2.Takes X W) (hpa : ∀ hd : Option Value, PassesOwnAt (model X.prog X.w) (X.A.mark hd) X.A X.env X.xe) (hl : inL l c = true) (hm : X.mg c = some (.ref (He.ga X.K c)))
    (hb : ∀ (V : WX) (pn : List (Addr × Obj)) (xe : Value → Shared → Prop), TakesK true (X.tr pn xe) V → PassesOwn (model X.prog X.w) X.A X.env xe → PSs (X.tr pn xe) body (S.t V))
    (hsu : ∀ (a : Addr) (pn : List (Addr × Obj)), L2.Takes (L2H.suiteX X a pn) W → L2H.HotC (L2H.suiteX X a pn) → PSs (L2H.suiteX X a pn) (b0 :: su) (R.t W))
    (hg : Gl X c := by rfl) (hd : (c == ("__debug__" : Str)) = false := by decide) (h1 : X.stack = X.env :: X.outer := by rfl) (h2 : X.env.frame = some X.env.locals := by rfl) :
    PS X (.Try body [.ExceptHandler (some (.Name c np)) none (b0 :: su) p'] [] [] pos) ((bsTryR l c S R).t W) := by
  have key := L2H.ps_try_onlyX (tb := fun V D σ H => ∃ V' : WX, (∀ cls d σ H, V' cls d σ H → V cls d σ H) ∧ S.t V' D σ H) (ts := fun _ _ _ => R.t W) (Wout := W) (np := np) (pos := pos) (pos' := p') h1 h2 ⟨hg, hd, .inl hm⟩ hpa tk
    (fun V pn xe t _ po => ⟨fun pins s σ H D I ⟨V', hv, h⟩ => (hb V' pn xe (takes_imp hv t) po).run pins s σ H D I h⟩) fun a oe cls d pn _ _ tk2 hot => hsu a _ tk2 hot
  refine ⟨fun pins s σ H D I h => key.run pins s σ H D I ⟨_, fun cls d σ H hh => ?_, h⟩⟩
  obtain ⟨c0, hc, e, w⟩ := hh
  obtain ⟨f0, hf⟩ := inL_mem hc
  obtain ⟨g0, hg'⟩ := inL_mem hl
  refine ⟨subX c0 c, by rw [e]; exact (F.pair hf hg').1, fun q a na => ?_, fun q => ?_⟩
  · rw [if_pos q] at w; exact w
  · rw [if_neg (by rw [q]; decide)] at w; exact w
end
end T

/-! The facts of the top, the table of statics too (a class's attributes are read there). -/
namespace T
open PySem L2
/-- what the names reach in n steps; the statics -/
def frS (n : Nat) (g : Addr → Option Obj) : Fg := He.frT g (He.asD g n ++ [cStatics])
def obsS (n : Nat) (fa : List He.Fa) (fn : List He.DefD) (tf : List He.Defn) (ex : Fg → Bool) (g : Addr → Option Obj) : He.AlX :=
  (He.obsT fa fn [] (frS n g), ex (frS n g) && He.tabsB g tf (frS n g))
section
variable {n : Nat} {fa : List He.Fa} {fn : List He.DefD} {tf : List He.Defn} {ex : Fg → Bool}
theorem saysS_of {w : World} {h : Heap} (e : obsS n fa fn tf ex h.get? = He.valX fn [] w) : He.SaysX fa fn [] tf ex w h (frS n h.get?) := by
  have e1 := congrArg Prod.fst e
  have e2 := congrArg Prod.snd e
  obtain ⟨h1, h2⟩ := Bool.and_eq_true_iff.mp (show (ex (frS n h.get?) && He.tabsB h.get? tf (frS n h.get?)) = true from e2)
  have one : ∀ p ∈ tf, PySem.W.codeHdIn (frS n h.get?) (He.cT (frS n h.get?) p).1 (He.cT (frS n h.get?) p).2 = true ∧ ∃ o, h.get? (He.cT (frS n h.get?) p).2 = some o ∧ He.emptyTab o = true := by
    intro p hp
    obtain ⟨k1, k2⟩ := Bool.and_eq_true_iff.mp (List.all_eq_true.mp h2 p hp)
    refine ⟨k1, ?_⟩
    split at k2
    · rename_i o q
      exact ⟨o, q, k2⟩
    · cases k2
  refine ⟨e1, h1, fun p hp => (one p hp).1, fun p hp => ?_, fun p hp => ?_⟩
  · obtain ⟨_, o, q, z⟩ := one p hp
    exact He.frT_none q z
  · obtain ⟨_, o, q, z⟩ := one p hp
    rw [q, He.emptyTab_eq z]
def hookS (n : Nat) (fa : List He.Fa) (fn : List He.DefD) (tf : List He.Defn) (ex : Fg → Bool) : PySem.W.Hook where
  α := He.AlX
  obs := fun s => obsS n fa fn tf ex s.heap.get?
  val := fun w => He.valX fn [] w
  says := fun w h => ∃ K : Fg, K.In h ∧ He.SaysX fa fn [] tf ex w h K
  of := fun _ _ e => ⟨_, He.frT_in, saysS_of e⟩
  keeps := fun _ _ _ ⟨K, hK, c⟩ k => ⟨K, PySem.W.Frag.In.keeps hK k, c.t, c.more, c.hd, c.out, fun p hp => k _ _ (c.empty p hp)⟩
theorem obsS_eq {g : Addr → Option Obj} {s : Shared} (h : ∀ a, g a = s.heap.get? a) : obsS n fa fn tf ex g = (hookS n fa fn tf ex).obs s := by
  rw [show g = s.heap.get? from funext h] <;> rfl
end
end T

/-! [e for x in range(n)] within a suite whose exception is tracked. -/
namespace T
open PySem PySem.Spec PyProof.Rows L2
/-- the handled exception, as it is tracked: its context is None -/
def GoodE (K : Fg) (a0 : Addr) (H : Hp) : Prop := ∃ c dd, H a0 = some (ExT K a0 c dd true)
def ItrE (K : Fg) (a0 : Addr) (lo : Int) (n : Nat) : It := { Itr lo n with stop := fun i H => n ≤ i ∧ GoodE K a0 H }
def iRngE (K : Fg) (a0 : Addr) (ta : TA) : TI := fun σ H R => ta σ H fun vs H1 => ∃ j : Int, vs = [.int j] ∧ (-(2 ^ 62) ≤ j ∧ j < 2 ^ 62) ∧ R (ItrE K a0 0 j.toNat) H1
section
variable {X : Cx} {a0 : Addr}
theorem hot_of {pins : List (Addr × Obj)} {σ : L2.St} {H : Hp} {s : Shared} (I : Inv X pins σ H s) (hh : X.A.handled = some (.ref a0)) (g : GoodE X.K a0 H) : HotX.HotAt X.A a0 s.heap := by
  obtain ⟨c, dd, e⟩ := g
  obtain ⟨⟨oe, vs, e1, _, _, e2, e3⟩, _⟩ := I.hok a0 _ e
  exact ⟨hh, oe, vs, e1, e2, e3 rfl⟩
/-- a range iterator that stands at its i-th thing -/
def RAt (it : Addr) (lo : Int) (n i : Nat) (h : Heap) : Prop := IsRangeIter h it (lo + (i : Nat) * 1) ((n : Int) - (i : Nat)) 1
def Came (a0 : Addr) (X : Cx) (pins : List (Addr × Obj)) (σ : L2.St) (R : It → Hp → Prop) (v : Value) (s : Shared) : Prop :=
  ∃ (it : Addr) (lo : Int) (n : Nat) (H : Hp), v = .ref it ∧ Inv X pins σ H s ∧ RAt it lo n 0 s.heap ∧ FpOk X pins H it ∧ R (ItrE X.K a0 lo n) H
structure PIQ (a0 : Addr) (X : Cx) (iter : Expr) (wi : TI) : Prop where
  run : ∀ (pins : List (Addr × Obj)) (s : Shared) (σ : L2.St) (H : Hp) (R : It → Hp → Prop), Inv X pins σ H s → wi σ H R →
    wpAny (model X.prog X.w) X.A (eval iter X.env) (fun v u => wpAny (model X.prog X.w) X.A (pyIter v) (Came a0 X pins σ R) X.xe u) X.xe s
theorem came_rng {pins : List (Addr × Obj)} {σ : L2.St} {H : Hp} {s : Shared} {R : It → Hp → Prop} {hi : Int} {t u v : Tok} {tk : Nat} {E : Value → Shared → Prop} (I : Inv X pins σ H s) (h3 : -(2 ^ 62) ≤ hi) (h4 : hi < 2 ^ 62) (q : R (ItrE X.K a0 0 hi.toNat) H) :
    wpAny (model X.prog X.w) X.A (pyIter (.ref s.heap.objs.size)) (Came a0 X pins σ R) E { s with heap := s.heap.push { cls := .type "range", data := .fields #[.int 0 t, .int hi u, .int 1 v] }, toks := tk } := by
  refine wpAny_pyIter_range (IsRange.new ..) (small_one (by omega) (by omega) h3 h4) ?_
  generalize hr : s.heap.push { cls := .type "range", data := .fields #[.int 0 t, .int hi u, .int 1 v] } = hp
  have J : Inv X pins σ H { s with heap := hp, toks := tk } := I.kept fun b o e => by rw [← hr]; exact Heap.get?_push_of_some _ e
  refine ⟨hp.objs.size, 0, hi.toNat, H, rfl, J.kept (t' := tk) fun b o e => Heap.get?_push_of_some _ e, ?_, J.fpOk (Nat.le_refl _) (J.hok.fresh (Nat.le_refl _)), q⟩
  have e1 : (0 : Int) + ((0 : Nat) : Int) * 1 = 0 := by simp
  have e2 : ((hi.toNat : Nat) : Int) - ((0 : Nat) : Int) = Builtin.Range.rangeSize 0 hi 1 := by rw [rangeSize_one]; split <;> omega
  unfold RAt
  rw [e1, e2]
  exact Heap.get?_push_size _ rfl
theorem piq_range {a : Expr} {ta : TA} {p pos : Pos} (hm : X.mg "range" = none) (ha : PA X [a] ta) (hg : Gl X "range" := by rfl) (hs : starEach [a] X.env = [(false, eval a X.env)] := by rfl) : PIQ a0 X (.Call (.Name "range" p) [a] [] pos) (iRngE X.K a0 ta) := by
  refine ⟨fun pins s σ H R I h => Call_ (ld_blt I hg hm boot_range (PyProof.Rows.callWith_type1 (thn (ha.run pos pins s σ H _ I h) fun us u1 hv => ?_) hs rfl))⟩
  obtain ⟨vs, H1, I1, r1, j, rfl, ⟨q1, q2⟩, q⟩ := hv
  cases r1 with
  | cons r rr =>
    cases rr
    obtain ⟨t, rfl⟩ := r
    exact call_range_1 (came_rng I1 q1 q2 q)
/-- the loop of the block -/
theorem lc_hot {pins : List (Addr × Obj)} {s : Shared} {σ : L2.St} {H : Hp} {Q : VK} {elt tg iter : Expr} {scope : Scope} {own : List (Str × Nat)} {pos : Pos} {wi : TI} {g : TG} {te : TE}
    (hh : X.A.handled = some (.ref a0)) (hN : X.N.Nodup) (I : Inv X pins σ H s) (hi : PIQ a0 X iter wi) (ok : BlkOk X.N X.env.scope scope own)
    (hg : ∀ (s : Shared) (H : Hp) (C : Addr) (cl : List (Str × Addr)) (fp : List Addr), PG (X.blk s H scope (compEnvC scope cl C X.env) fp) tg g)
    (he : ∀ (s : Shared) (H : Hp) (C : Addr) (cl : List (Str × Addr)) (fp : List Addr), PE (X.blk s H scope (compEnvC scope cl C X.env) fp) elt te) (hs : ∀ x, foldedSetIterable iter X.env x = pure x)
    (h : tLc wi g tYes te (own.map (·.2)) σ H Q) : wpAny (model X.prog X.w) X.A (eval (.ListComp elt [⟨tg, iter, [], 0⟩] scope pos) X.env) (EP X pins σ Q) X.xe s := by
  have fr0 : ∀ y ∈ scope.names, y.2 = .free → ∃ c, X.env.cells.lookup y.1 = some c := fun y hy e => (ok.free y hy e).elim (fun k => I.ok.has _ (.inl k)) fun k => I.ok.has _ (.inr k)
  rw [eval_ListComp]
  refine wpAny_comprehension_free rfl hs (closure_ok fr0) ok.kind (fun y hy e => by rw [ok.uniq y hy, e]) (thn (hi.run pins s σ H _ I h) fun xv u1 hx => thn hx fun itv u2 hc => ?_)
  obtain ⟨it, lo, n, G, rfl, J, st, fo, q⟩ := hc
  refine wpAny_newObj_type (newEnv_comp ?_) (by show 0 ≤ sizeLine; decide)
  generalize eL : u2.heap.objs.size = L
  have gL : G L = none := J.hok.fresh (Nat.le_of_eq eL)
  obtain ⟨W, ⟨m0, w0⟩, turn⟩ := q L gL
  generalize e3 : ({ u2 with heap := u2.heap.push { cls := .type "list", data := .seq ([] : List Value).toArray } } : Shared) = u3
  have kp3 : ∀ b o, u2.heap.get? b = some o → u3.heap.get? b = some o := fun b o e => by rw [← e3]; exact Heap.get?_push_of_some _ e
  have J3 : Inv X pins σ (upd G L (.lst [])) u3 := by
    rw [← e3]
    refine J.laid (t' := u2.toks) (fun b o e => Heap.get?_push_of_some _ e) (Nat.le_of_eq eL) ⟨Nat.zero_le _, [], 0, .nil, ?_⟩
    rw [← eL]
    exact Heap.get?_push_size _ rfl
  have itL : it ≠ L := by rw [← eL]; exact Nat.ne_of_lt (Heap.lt_size st)
  have fo3 : FpOk X pins (upd G L (.lst [])) it := ⟨(upd_ne itL).trans fo.1, fo.2⟩
  have st3 : RAt it lo n 0 u3.heap := kp3 _ _ st
  have Jb := block_start (fp := [it]) J3 ok hN fun b hb => by
    have e : b = it := by simpa using hb
    rw [e]
    exact ⟨fo3, Heap.lt_size st3⟩
  have pg := hg u3 (upd G L (.lst [])) u3.heap.objs.size (cellsFrom (u3.heap.objs.size + 1) scope.names (cloFrom X.env.cells scope.names [])) [it]
  have pe := he u3 (upd G L (.lst [])) u3.heap.objs.size (cellsFrom (u3.heap.objs.size + 1) scope.names (cloFrom X.env.cells scope.names [])) [it]
  show codeAny _ _ (.compStart (.ListComp elt [⟨tg, iter, [], 0⟩] scope pos) 0 (.ref it) (.ref L) (compEnvC scope (cellsFrom (u3.heap.objs.size + 1) scope.names (cloFrom X.env.cells scope.names [])) u3.heap.objs.size X.env)) (compPost (model X.prog X.w) X.A X.xe none (EP X pins σ Q) (.ref L) u3.heap.objs.size) { u3 with heap := pushCells _ _ }
  generalize ec : compEnvC scope (cellsFrom (u3.heap.objs.size + 1) scope.names (cloFrom X.env.cells scope.names [])) u3.heap.objs.size X.env = ce at Jb pg pe ⊢
  have cL : ce.locals = u3.heap.objs.size := by subst ec; rfl
  generalize eG : upd G L (.lst []) = G3 at J3 Jb pg pe w0 fo3
  generalize e4 : ({ u3 with heap := pushCells (u3.heap.push { cls := .type "dict", data := .dict #[] }) scope.names } : Shared) = u4 at Jb ⊢
  have st4 : RAt it lo n 0 u4.heap := by rw [← e4]; exact pushCells_keeps _ _ _ _ (Heap.get?_push_of_some _ st3)
  have nit : G3 it = none := fo3.1
  have sure : ∀ {τ : L2.St} {F : Hp} {v : Shared}, Inv (X.blk u3 G3 scope ce [it]) [] τ F v → F it = none → FpOk (X.blk u3 G3 scope ce [it]) [] F it := fun {τ F v} V z =>
    ⟨z, (V.ok.exf it (by simp)).1, V.ok.exfs it (by simp), .inl (by simp), fun x c e => (V.ok.exf it (by simp)).2 x c e, fun p hp => absurd (show p ∈ ([] : List (Addr × Obj)) ++ [] from hp) (by simp)⟩
  have noc : ∀ {i : Nat} {o : Obj} {F : Heap}, RAt it lo n i F → F.get? it = some o → ∀ v, o.data ≠ .cell v := by
    intro i o F a e v z
    have a : F.get? it = some _ := a
    rw [a] at e
    cases e
    cases (show Data.fields _ = Data.cell v from z)
  have loop : codeAny (model X.prog X.w) X.A (.compLoop (.ListComp elt [⟨tg, iter, [], 0⟩] scope pos) 0 (.ref it) (.ref L) ce) (compPost (model X.prog X.w) X.A X.xe none (EP X pins σ Q) (.ref L) u3.heap.objs.size) u4 := by
    refine compLoop_any (fun k v => ∃ i F, Inv (X.blk u3 G3 scope ce [it]) [] (wipe σ (own.map (·.2))) F v ∧ RAt it lo n i v.heap ∧ F it = none ∧ W i k F) ?_ m0 ⟨0, G3, Jb, st4, nit, w0⟩
    rintro k v5 ⟨i, F5, V5, a5, z5, w5⟩
    obtain ⟨f0, f1, f2, f3, f4, f5⟩ := sure V5 z5
    rcases turn i k F5 w5 with ⟨⟨stop, good⟩, qq⟩ | ⟨go, Nx, hNx, step⟩
    · refine HotX.pyNext_range_end_hot (hot_of (X := X.blk u3 G3 scope ce [it]) V5 hh good) a5 (by have : n ≤ i := stop; omega) fun h6 eb => ?_
      have V6 : Inv (X.blk u3 G3 scope ce [it]) [] (wipe σ (own.map (·.2))) F5 { v5 with heap := h6 } := V5.turned (t' := v5.toks) (fun b o _ e => eb b o e) f0 f1 f3 f4 f5
      have J7 : Inv X pins σ F5 { v5 with heap := h6 } := J3.call' (ch := [it]) V6.os V6.base V6.hok V6.bare fun b hb => by
        have e : b = it := by simpa using hb
        subst e
        exact ⟨fo3.2.2.2.1, fo3.2.1, fo3.2.2.2.2.1, fo3.2.2.2.2.2⟩
      have nC : F5 u3.heap.objs.size = none := by
        have z : F5 ce.locals = none := V6.free
        rw [cL] at z; exact z
      obtain ⟨m, hn, _⟩ := V6.loc
      have hn : h6.Ns ce.locals m := hn
      rw [cL] at hn
      obtain ⟨p0, p1, p2, p3, p4, p5⟩ := J3.fpOk (Nat.le_refl _) nC
      exact ⟨m, hn, fun h8 sb => ⟨.ref L, F5, J7.turned (t' := v5.toks) (fun b o hb e => (sb.2 b hb).trans e) p0 p1 p3 p4 p5, rfl, qq⟩⟩
    · have lt : i < n := go
      refine wpAny_pyNext_range_item a5 (by omega) fun h6 a6 sb => ?_
      have a7 : RAt it lo n (i + 1) h6 := by
        unfold RAt
        rw [show lo + ((i + 1 : Nat) : Int) * 1 = lo + ((i : Nat) : Int) * 1 + 1 by omega, show (n : Int) - ((i + 1 : Nat) : Int) = (n : Int) - ((i : Nat) : Int) - 1 by omega]
        exact a6
      have V6 : Inv (X.blk u3 G3 scope ce [it]) [] (wipe σ (own.map (·.2))) F5 { v5 with heap := h6, toks := v5.toks + 1 } := V5.turned (fun b o hb e => (sb.2 b hb).trans e) f0 f1 f3 f4 f5
      refine go_of (s := { v5 with heap := h6, toks := v5.toks + 1 }) (n := "range_iterator") a7 rfl rfl (by decide) ?_
      have V7 := V6.pinned (fp := [it]) (fun b hb => by
        have e : b = it := by simpa using hb
        rw [e]; exact sure V6 z5) (fun b hb => by
        have e : b = it := by simpa using hb
        rw [e]; exact ⟨_, a7, noc a7 a7⟩)
      refine thnF (pg.run _ _ _ F5 (.int (lo + i)) _ _ V7 ⟨v5.toks, by rw [Int.mul_one]⟩ (step (.int (lo + i)) F5 ⟨rfl, rfl⟩)) fun _ v8 hv => ?_
      obtain ⟨τ8, F8, V8, hw, q8⟩ := hv
      refine wpAny_tests_nil ?_
      have q8 : te τ8 F8 fun y H4 => ∃ acc, H4 L = some (.lst acc) ∧ acc.length < sizeLine ∧ Nx (upd H4 L (.lst (acc ++ [y]))) := q8
      rw [if_pos rfl]
      refine thnF (pe.run _ v8 τ8 F8 _ V8 q8) fun z v9 hz => ?_
      obtain ⟨y, F9, V9, r9, acc, eL9, lz, nx⟩ := hz
      refine app_ok (X := X.blk u3 G3 scope ce [it]) V9 eL9 lz r9 fun v10 V10 => ?_
      obtain ⟨k2, lk, w2⟩ := hNx _ nx
      have pin := fun o e => V10.pin (it, o) (List.mem_append_right _ (List.mem_append_right _ (mem_pinsAt (by simp) (show h6.get? it = some o from e))))
      have hl : (wipe σ (own.map (·.2))).length = τ8.length := by rw [← hw, wipe_length]
      refine ⟨k2, lk, i + 1, _, (V10.unpinned (pins := [])).weak hl (fun j x e => ?_), (pin _ a7).1, (pin _ a7).2.1, w2⟩
      rw [← hw] at e
      exact (wipe_some e).1
  exact codeAny_compStart_list loop (wpAny_pyIter_rangeiter st4 loop)
end
/-! ### over data -/
/-- range(n) of a comprehension, under the exception that slot j holds -/
def biRngE {K : Fg} (a0 : Addr) (j : Nat) (a : BA K) : BI K where
  t := fun W => iRngE K a0 (a.t W)
  w := fun ρ ω Φ Ψ => (∃ c dd f d, ρ[j]? = some (some (.exn a0 dd c f d true))) ∧ a.w ρ ω (fun xs ω1 => match xs with
    | [.int n] => (-(2 ^ 62) ≤ n ∧ n < 2 ^ 62) ∧ Φ (rngD 0 n.toNat) (fun _ => True) ω1
    | _ => False) Ψ
  ok := fun W ρ z σ R Φ Ψ h o r q qx => by
    obtain ⟨⟨c, dd, f, d, e⟩, h⟩ := h
    obtain ⟨v, _, rv⟩ := r.at_ j _ e
    have g0 : ∃ c dd, z.d a0 = some (ExT K a0 c dd true) := by
      cases rv with
      | exn0 e => exact ⟨_, _, e⟩
      | exn1 e _ _ => exact ⟨_, _, e⟩
    refine a.ok W ρ z σ _ _ Ψ h o r (fun vs z1 ds t1 r1 h1 => ?_) qx
    split at h1
    · obtain ⟨x, rfl, r2⟩ := rep1 r1
      cases r2
      refine ⟨_, rfl, h1.1, q _ z1 _ _ t1 ?_ h1.2⟩
      have b := it_rng z1 0 (Int.toNat ‹Int›) (K := K)
      refine ⟨b.go, fun i z2 t2 ch le => ⟨b.stop i z2 t2 ch le, ?_⟩⟩
      obtain ⟨c, dd, e⟩ := g0
      exact ⟨c, dd, t2.ok.fz _ _ (t2.ex _ _ (t1.ex _ _ e))⟩
    · exact h1.elim
theorem x_rngE {K : Fg} {a0 : Addr} {j : Nat} {a : BA K} {ρ : En} {ω : Om} {Φ : List D → (Om → Prop) → Om → Prop} {Ψ : Exn → Om → Prop} (h : ∃ c dd f d, ρ[j]? = some (some (.exn a0 dd c f d true))) :
    (biRngE a0 j a).w ρ ω Φ Ψ = (biRng1 a).w ρ ω Φ Ψ := propext ⟨fun z => z.2, fun z => ⟨h, z⟩⟩
section
variable {X : Cx} {a0 : Addr} {W : WX} {As : BA X.K} {G : BG X.K} {A : BE X.K} {j : Nat}
theorem I_rE {a : Expr} {p pos : Pos} (hm : X.mg "range" = none) (ha : PA X [a] (As.t W)) (hg : Gl X "range" := by rfl) (hs : starEach [a] X.env = [(false, eval a X.env)] := by rfl) : PIQ a0 X (.Call (.Name "range" p) [a] [] pos) ((biRngE a0 j As).t W) := piq_range hm ha hg hs
theorem P_lcE {ow : Bool} {I : BI X.K} {elt tg iter : Expr} {scope : Scope} {own : List (Str × Nat)} {hm : Mon G} {ho : Only G (own.map (·.2))} {pos : Pos} (hh : X.A.handled = some (.ref a0)) (hN : X.N.Nodup) (hi : PIQ a0 X iter (I.t W)) (ok : BlkOk X.N X.env.scope scope own)
    (hg : ∀ (s : Shared) (H : Hp) (C : Addr) (cl : List (Str × Addr)) (fp : List Addr), PG (X.blk s H scope (compEnvC scope cl C X.env) fp) tg G.t)
    (he : ∀ (s : Shared) (H : Hp) (C : Addr) (cl : List (Str × Addr)) (fp : List Addr), PE (X.blk s H scope (compEnvC scope cl C X.env) fp) elt (A.t W0)) (hs : ∀ x, foldedSetIterable iter X.env x = pure x := by intro _; rfl) :
    PE X (.ListComp elt [⟨tg, iter, [], 0⟩] scope pos) ((bLc ow I G btYes A (own.map (·.2)) hm ho).t W) := ⟨fun pins s σ H Q I h => lc_hot hh hN I hi ok hg he hs h⟩
end
/-! ### try, a suite that knows what it handles -/
def wTryA (K : Fg) (V : WX) (D : Ends) (c : Str) (i : Nat) (B : Addr → BS K) (l : ECls) : WX := fun cls d σ H => ∃ c0, inL l c0 = true ∧ cls = .ref (He.ga K c0) ∧ if subX c0 c = true then ∀ a, H a = none → (B a).t W0 (endT D (some i)) (putT σ (some i) a) (upd H a (ExT K a c0 d true)) else V cls d σ H
def bsTryA {K : Fg} (l : ECls) (c : Str) (i : Nat) (S : BS K) (B : Addr → BS K) : BS K where
  t := fun V D σ H => S.t (wTryA K V D c i B l) D σ H
  w := fun ρ ω k => S.w ρ ω { k with xc := fun x ρ1 ω1 => inL l x.c = true ∧ if subX x.c c = true then ∀ a dd, (B a).w (slotD ρ1 (some i) (exD a dd true x)) ω1 (endD k (some i)) else k.xc x ρ1 ω1 }
  ok := fun V ρ z σ D' k h ok r hk => by
    refine S.ok _ ρ z σ D' _ h ok r ⟨hk.nx, hk.rt, hk.bk, hk.ct, fun x cls d σ2 ρ2 z2 t r2 rx h2 => ?_⟩
    obtain ⟨h2, h3⟩ := h2
    refine ⟨x.c, h2, rx.1, ?_⟩
    by_cases q : subX x.c c = true
    · rw [if_pos q] at h3 ⊢
      intro a na
      have up := t.ok.add (o := ExT K a x.c d true) na (fun ps e => by unfold ExT at e; cases e)
      obtain ⟨dd, rd⟩ : ∃ dd, Rep K (upd z2.d a (ExT K a x.c d true)) (.ref a) (exD a dd true x) := by
        obtain ⟨n1, f1⟩ := x
        obtain ⟨_, r3⟩ := rx
        cases f1 with
        | none => cases (show d = none from r3); exact ⟨0, .exn0 upd_same⟩
        | some p =>
          obtain ⟨b, v, rfl, q1, q2⟩ := r3
          exact ⟨b, .exn1 upd_same (up.ex _ _ q1) (q2.mono up.ex)⟩
      exact (B a).ok W0 _ ⟨upd z2.d a (ExT K a x.c d true), upd z2.h a (ExT K a x.c d true), z2.o, z2.t⟩ _ _ _ (h3 a dd) up.ok (repE_put (r2.mono up.ex) rd) (kOk_end ((hk.to t).to up))
    · rw [if_neg q] at h3 ⊢
      exact hk.xc _ _ _ _ _ _ t r2 rx h3
theorem x_tryA {K : Fg} {l : ECls} {c : Str} {i : Nat} {S : BS K} {B : Addr → BS K} {ρ : En} {ω : Om} {k : KD} : (bsTryA l c i S B).w ρ ω k = S.w ρ ω ⟨k.nx, k.rt, k.bk, k.ct, fun x ρ1 ω1 => inL l x.c = true ∧ if subX x.c c = true then ∀ a dd, (B a).w (slotD ρ1 (some i) (exD a dd true x)) ω1 (endD k (some i)) else k.xc x ρ1 ω1⟩ := rfl
section
variable {X : Cx} {W : WX} {l : ECls}
theorem S_tryA {c y : Str} {i : Nat} {S : BS X.K} {B : Addr → BS X.K} {body su : List Stmt} {b0 : Stmt} {np p' pos : Pos} (F : XFs X.K l) (hN : X.N.Nodup) (tk : TakesK true X W) (hl : inL l c = true) (hm : X.mg c = some (.ref (He.ga X.K c))) (hg : Gl X c) (hd : (c == ("__debug__" : Str)) = false)
    (hi : X.N[i]? = some y) (hy : X.env.kindOf y = some .local) (hsu : ∀ (a : Addr) (pn : List (Addr × Obj)), PSs (Cx.sui X a pn) (b0 :: su) ((B a).t W0))
    (hb : ∀ (V : WX) (pn : List (Addr × Obj)) (xe : Value → Shared → Prop), TakesK true (X.tr pn xe) V → PassesOwn (model X.prog X.w) X.A X.env xe → PSs (X.tr pn xe) body (S.t V)) (h1 : X.stack = X.env :: X.outer := by rfl) (h2 : X.env.frame = some X.env.locals := by rfl) (h3 : X.ex = [] := by rfl) :
    PS X (.Try body [.ExceptHandler (some (.Name c np)) (some y) (b0 :: su) p'] [] [] pos) ((bsTryA l c i S B).t W) := by
  refine ps_tryT (n := true) (Wout := W) (l := [(.ref (He.ga X.K c), some i, fun a _ _ => (B a).t W0)]) (wf := fun D => wTryA X.K W D c i B l) (tb := fun V => S.t V) (fun D cls d σ H h => ?_) h1 h2 h3 hN tk hb (.as ⟨hg, hd, .inl hm⟩ hi hy (fun a pn _ _ => hsu a pn) .nil)
  obtain ⟨c0, hc, e, h⟩ := h
  obtain ⟨f, hf⟩ := inL_mem hc
  obtain ⟨g, hg'⟩ := inL_mem hl
  refine ⟨subX c0 c, by rw [e]; exact (F.pair hf hg').1, fun q a na => ?_, fun q => ?_⟩
  · rw [if_pos q] at h
    subst e
    exact h a na
  · rw [if_neg (by rw [q]; decide)] at h
    exact h
end
end T

namespace G
open PySem L2 T
def okc (c : Nat) : Bool := decide (32 ≤ c) && decide (c ≤ 126)
def isTx (l m : Int) : D → Bool
  | .str s => decide (l ≤ s.length) && decide ((s.length : Int) ≤ m) && s.all okc
  | _ => false
def isWh (l m : Int) : D → Bool
  | .int i => decide (l ≤ i) && decide (i ≤ m)
  | _ => false
/-- a thing whose type is known -/
def okD (ω : Om) (d : D) : Prop := (∃ T, tyD ω d = some T) ∧ ∀ s, d = .str s → s.length ≤ 10000000
/-- .. with its parts -/
def okP (ω : Om) (d : D) : Prop := okD ω d ∧ ∀ ds, d = .tup ds → ∀ e ∈ ds, okD ω e
def isKey (d : D) : Bool := isTx 1 20 d
def isVal (d : D) : Bool := isTx 0 40 d
def isStp (d : D) : Bool := isWh 1 999999999 d
def isEnt : D → Bool
  | .tup [k, s, v] => isKey k && isStp s && (isNon v || isVal v)
  | _ => false
def isDeed : D → Bool
  | .tup [.str w, k] => decide (w = [100, 114, 111, 112]) && isKey k
  | .tup [.str w, k, v] => decide (w = [112, 117, 116]) && isKey k && isVal v
  | _ => false
def W_is_text : WP := fun ds ω Φ => ∃ d l m, ds = [d, .int l, .int m] ∧ okD ω d ∧ Φ (.bl (isTx l m d)) ω
def W_is_key : WP := fun ds ω Φ => ∃ d, ds = [d] ∧ okD ω d ∧ Φ (.bl (isKey d)) ω
def W_is_value : WP := fun ds ω Φ => ∃ d, ds = [d] ∧ okD ω d ∧ Φ (.bl (isVal d)) ω
def W_is_whole : WP := fun ds ω Φ => ∃ d l m, ds = [d, .int l, .int m] ∧ (∃ T, tyD ω d = some T) ∧ Φ (.bl (isWh l m d)) ω
def W_is_stamp : WP := fun ds ω Φ => ∃ d, ds = [d] ∧ (∃ T, tyD ω d = some T) ∧ Φ (.bl (isStp d)) ω
def W_is_entry : WP := fun ds ω Φ => ∃ d, ds = [d] ∧ okP ω d ∧ Φ (.bl (isEnt d)) ω
def W_is_deed : WP := fun ds ω Φ => ∃ d, ds = [d] ∧ okP ω d ∧ Φ (.bl (isDeed d)) ω
end G

namespace G
open PySem L2 T
abbrev k_MOST_KEY {K : Fg} : BE K := bCon (.int 20) (.int 20) (fun _ => .int _)
abbrev k_MOST_STAMP {K : Fg} : BE K := bCon (.int 999999999) (.int 999999999) (fun _ => .int _)
abbrev k_MOST_VALUE {K : Fg} : BE K := bCon (.int 40) (.int 40) (fun _ => .int _)

def b_is_text {K : Fg} : BS K :=
  bsSeq (bsIf (btOr (btNot (btTru (bIsi "str" (by simp) (bVar 0)))) (btNot (btC (bChain (oLe) (oLe) (bVar 1) (bCB cLen (baC (bVar 0) (baN))) (bVar 2))))) (bsRet (bBl false)) (bsNext)) (bsRet (bCB cAll (baC (bLc false (biSeq (bVar 0)) (bgN 3) (btYes) (bChain (oLe) (oLe) (bLit " " [32] (by decide +kernel)) (bVar 3) (bLit "~" [126] (by decide +kernel))) [3] mon_n (only_n (by decide))) (baN))))
theorem len_is_text : ∀ ds ω Φ, W_is_text ds ω Φ → ds.length = 3 := by
  intro ds ω Φ h
  first | (obtain ⟨rfl, _⟩ := h; rfl) | (obtain ⟨_, rfl, _⟩ := h; rfl) | (obtain ⟨_, _, rfl, _⟩ := h; rfl) | (obtain ⟨_, _, _, rfl, _⟩ := h; rfl) | (obtain ⟨_, _, _, _, rfl, _⟩ := h; rfl) | (obtain ⟨_, _, _, _, _, rfl, _⟩ := h; rfl) | (obtain ⟨_, _, _, _, _, _, rfl, _⟩ := h; rfl) | (obtain ⟨_, _, _, _, _, _, _, rfl, _⟩ := h; rfl) | (obtain ⟨_, _, _, _, _, _, _, _, rfl, _⟩ := h; rfl) | (obtain ⟨_, _, _, _, _, _, _, _, _, rfl, _⟩ := h; rfl) | exact T.len_of h
def b_is_key {K : Fg} : BS K :=
  bsRet (bCall0 W_is_text (baC (bVar 0) (baC (bInt 1) (baC (k_MOST_KEY) (baN)))))
theorem len_is_key : ∀ ds ω Φ, W_is_key ds ω Φ → ds.length = 1 := by
  intro ds ω Φ h
  first | (obtain ⟨rfl, _⟩ := h; rfl) | (obtain ⟨_, rfl, _⟩ := h; rfl) | (obtain ⟨_, _, rfl, _⟩ := h; rfl) | (obtain ⟨_, _, _, rfl, _⟩ := h; rfl) | (obtain ⟨_, _, _, _, rfl, _⟩ := h; rfl) | (obtain ⟨_, _, _, _, _, rfl, _⟩ := h; rfl) | (obtain ⟨_, _, _, _, _, _, rfl, _⟩ := h; rfl) | (obtain ⟨_, _, _, _, _, _, _, rfl, _⟩ := h; rfl) | (obtain ⟨_, _, _, _, _, _, _, _, rfl, _⟩ := h; rfl) | (obtain ⟨_, _, _, _, _, _, _, _, _, rfl, _⟩ := h; rfl) | exact T.len_of h
def b_is_value {K : Fg} : BS K :=
  bsRet (bCall0 W_is_text (baC (bVar 0) (baC (bInt 0) (baC (k_MOST_VALUE) (baN)))))
theorem len_is_value : ∀ ds ω Φ, W_is_value ds ω Φ → ds.length = 1 := by
  intro ds ω Φ h
  first | (obtain ⟨rfl, _⟩ := h; rfl) | (obtain ⟨_, rfl, _⟩ := h; rfl) | (obtain ⟨_, _, rfl, _⟩ := h; rfl) | (obtain ⟨_, _, _, rfl, _⟩ := h; rfl) | (obtain ⟨_, _, _, _, rfl, _⟩ := h; rfl) | (obtain ⟨_, _, _, _, _, rfl, _⟩ := h; rfl) | (obtain ⟨_, _, _, _, _, _, rfl, _⟩ := h; rfl) | (obtain ⟨_, _, _, _, _, _, _, rfl, _⟩ := h; rfl) | (obtain ⟨_, _, _, _, _, _, _, _, rfl, _⟩ := h; rfl) | (obtain ⟨_, _, _, _, _, _, _, _, _, rfl, _⟩ := h; rfl) | exact T.len_of h
def b_is_whole {K : Fg} : BS K :=
  bsRet (bAndT (bIsi "int" (by simp) (bVar 0)) (bAndT (bNotT (bIsi "bool" (by simp) (bVar 0))) (bChain (oLe) (oLe) (bVar 1) (bVar 0) (bVar 2))))
theorem len_is_whole : ∀ ds ω Φ, W_is_whole ds ω Φ → ds.length = 3 := by
  intro ds ω Φ h
  first | (obtain ⟨rfl, _⟩ := h; rfl) | (obtain ⟨_, rfl, _⟩ := h; rfl) | (obtain ⟨_, _, rfl, _⟩ := h; rfl) | (obtain ⟨_, _, _, rfl, _⟩ := h; rfl) | (obtain ⟨_, _, _, _, rfl, _⟩ := h; rfl) | (obtain ⟨_, _, _, _, _, rfl, _⟩ := h; rfl) | (obtain ⟨_, _, _, _, _, _, rfl, _⟩ := h; rfl) | (obtain ⟨_, _, _, _, _, _, _, rfl, _⟩ := h; rfl) | (obtain ⟨_, _, _, _, _, _, _, _, rfl, _⟩ := h; rfl) | (obtain ⟨_, _, _, _, _, _, _, _, _, rfl, _⟩ := h; rfl) | exact T.len_of h
def b_is_stamp {K : Fg} : BS K :=
  bsRet (bCall0 W_is_whole (baC (bVar 0) (baC (bInt 1) (baC (k_MOST_STAMP) (baN)))))
theorem len_is_stamp : ∀ ds ω Φ, W_is_stamp ds ω Φ → ds.length = 1 := by
  intro ds ω Φ h
  first | (obtain ⟨rfl, _⟩ := h; rfl) | (obtain ⟨_, rfl, _⟩ := h; rfl) | (obtain ⟨_, _, rfl, _⟩ := h; rfl) | (obtain ⟨_, _, _, rfl, _⟩ := h; rfl) | (obtain ⟨_, _, _, _, rfl, _⟩ := h; rfl) | (obtain ⟨_, _, _, _, _, rfl, _⟩ := h; rfl) | (obtain ⟨_, _, _, _, _, _, rfl, _⟩ := h; rfl) | (obtain ⟨_, _, _, _, _, _, _, rfl, _⟩ := h; rfl) | (obtain ⟨_, _, _, _, _, _, _, _, rfl, _⟩ := h; rfl) | (obtain ⟨_, _, _, _, _, _, _, _, _, rfl, _⟩ := h; rfl) | exact T.len_of h
def b_is_entry {K : Fg} : BS K :=
  bsSeq (bsIf (btOr (btNot (btTru (bIsi "tuple" (by simp) (bVar 0)))) (btOr (btC (bOp (oNe) (bCB cLen (baC (bVar 0) (baN))) (bInt 3))) (btOr (btNot (btTru (bCall0 W_is_key (baC (bOp oIx (bVar 0) (bInt 0)) (baN))))) (btNot (btTru (bCall0 W_is_stamp (baC (bOp oIx (bVar 0) (bInt 1)) (baN)))))))) (bsRet (bBl false)) (bsNext)) (bsRet (bOrT (bOp (oIs false) (bOp oIx (bVar 0) (bInt 2)) (bNon)) (bCall0 W_is_value (baC (bOp oIx (bVar 0) (bInt 2)) (baN)))))
theorem len_is_entry : ∀ ds ω Φ, W_is_entry ds ω Φ → ds.length = 1 := by
  intro ds ω Φ h
  first | (obtain ⟨rfl, _⟩ := h; rfl) | (obtain ⟨_, rfl, _⟩ := h; rfl) | (obtain ⟨_, _, rfl, _⟩ := h; rfl) | (obtain ⟨_, _, _, rfl, _⟩ := h; rfl) | (obtain ⟨_, _, _, _, rfl, _⟩ := h; rfl) | (obtain ⟨_, _, _, _, _, rfl, _⟩ := h; rfl) | (obtain ⟨_, _, _, _, _, _, rfl, _⟩ := h; rfl) | (obtain ⟨_, _, _, _, _, _, _, rfl, _⟩ := h; rfl) | (obtain ⟨_, _, _, _, _, _, _, _, rfl, _⟩ := h; rfl) | (obtain ⟨_, _, _, _, _, _, _, _, _, rfl, _⟩ := h; rfl) | exact T.len_of h
def b_is_deed {K : Fg} : BS K :=
  bsSeq (bsIf (btOr (btNot (btTru (bIsi "tuple" (by simp) (bVar 0)))) (btOr (btC (bOp (oEqE) (bVar 0) (bTup (baN)))) (btNot (btTru (bIsi "str" (by simp) (bOp oIx (bVar 0) (bInt 0))))))) (bsRet (bBl false)) (bsNext)) (bsSeq (bsIf (btC (bOp (oEq) (bOp oIx (bVar 0) (bInt 0)) (bLit "drop" [100, 114, 111, 112] (by decide +kernel)))) (bsRet (bAndT (bOp (oEq) (bCB cLen (baC (bVar 0) (baN))) (bInt 2)) (bCall0 W_is_key (baC (bOp oIx (bVar 0) (bInt 1)) (baN))))) (bsNext)) (bsRet (bAndT (bOp (oEq) (bOp oIx (bVar 0) (bInt 0)) (bLit "put" [112, 117, 116] (by decide +kernel))) (bAndT (bOp (oEq) (bCB cLen (baC (bVar 0) (baN))) (bInt 3)) (bAndT (bCall0 W_is_key (baC (bOp oIx (bVar 0) (bInt 1)) (baN))) (bCall0 W_is_value (baC (bOp oIx (bVar 0) (bInt 2)) (baN))))))))
theorem len_is_deed : ∀ ds ω Φ, W_is_deed ds ω Φ → ds.length = 1 := by
  intro ds ω Φ h
  first | (obtain ⟨rfl, _⟩ := h; rfl) | (obtain ⟨_, rfl, _⟩ := h; rfl) | (obtain ⟨_, _, rfl, _⟩ := h; rfl) | (obtain ⟨_, _, _, rfl, _⟩ := h; rfl) | (obtain ⟨_, _, _, _, rfl, _⟩ := h; rfl) | (obtain ⟨_, _, _, _, _, rfl, _⟩ := h; rfl) | (obtain ⟨_, _, _, _, _, _, rfl, _⟩ := h; rfl) | (obtain ⟨_, _, _, _, _, _, _, rfl, _⟩ := h; rfl) | (obtain ⟨_, _, _, _, _, _, _, _, rfl, _⟩ := h; rfl) | (obtain ⟨_, _, _, _, _, _, _, _, _, rfl, _⟩ := h; rfl) | exact T.len_of h
end G

namespace G
open PySem L2 T
def cellAt (ns : List Int) (k : Int) : Int := ns.getD k.toNat 0
def W__law_cell_at : WP := fun ds ω Φ => ∃ (ns : List Int) (k : Int), ds = [.scr ns, .int k] ∧ 0 ≤ k ∧ Φ (.int (cellAt ns k)) ω
def mixed (c k : Int) : Int := ((c + 7919 * k) * 48271 % 2147483647) * (((c + 7919 * k) * 48271 % 2147483647) % 65537 + k + 1) % 2147483647
def W__law_mixed : WP := fun ds ω Φ => ∃ (c k : Int), ds = [.int c, .int k] ∧ Φ (.int (mixed c k)) ω
/-- what the law's words are: nothing, or k's but for one sign -/
def W__law_word : WP := fun ds ω Φ => ∃ (c l m : Int), ds = [.int c, .int l, .int m] ∧ 0 ≤ l ∧ l ≤ m ∧ m ≤ 100 ∧ ∀ s : List Nat, s.all okc = true → l ≤ s.length → s.length ≤ m → Φ (.str s) ω
end G

namespace G
open PySem L2 T
def S_07780f : List Nat := [32, 33, 34, 35, 36, 38, 39, 40, 41, 42, 43, 44, 45, 46, 47, 48, 49, 50, 51, 52, 53, 54, 55, 56, 57, 58, 59, 60, 61, 62, 63, 64, 65, 66, 67, 68, 69, 70, 71, 72, 73, 74, 75, 76, 77, 78, 79, 80, 81, 82, 83, 84, 85, 86, 87, 88, 89, 90, 91, 92, 93, 94, 95, 96, 97, 98, 99, 100, 101, 102, 103, 104, 105, 106, 107, 108, 109, 110, 111, 112, 113, 114, 115, 116, 117, 118, 119, 120, 121, 122, 123, 124, 125, 126]
theorem S_07780f_eq : cs " !\"#$&'()*+,-./0123456789:;<=>?@ABCDEFGHIJKLMNOPQRSTUVWXYZ[\\]^_`abcdefghijklmnopqrstuvwxyz{|}~" = S_07780f := by decide +kernel
theorem S_07780f_len : S_07780f.length = 94 := by decide +kernel

def b__law_cell_at {K : Fg} : BS K :=
  bsSeq (bsIf (btC (bOp (oLt) (bVar 1) (bCB cLen (baC (bVar 0) (baN))))) (bsRet (bOp oIx (bVar 0) (bVar 1))) (bsNext)) (bsRet (bInt 0))
theorem len__law_cell_at : ∀ ds ω Φ, W__law_cell_at ds ω Φ → ds.length = 2 := by
  intro ds ω Φ h
  first | (obtain ⟨rfl, _⟩ := h; rfl) | (obtain ⟨_, rfl, _⟩ := h; rfl) | (obtain ⟨_, _, rfl, _⟩ := h; rfl) | (obtain ⟨_, _, _, rfl, _⟩ := h; rfl) | (obtain ⟨_, _, _, _, rfl, _⟩ := h; rfl) | (obtain ⟨_, _, _, _, _, rfl, _⟩ := h; rfl) | (obtain ⟨_, _, _, _, _, _, rfl, _⟩ := h; rfl) | (obtain ⟨_, _, _, _, _, _, _, rfl, _⟩ := h; rfl) | (obtain ⟨_, _, _, _, _, _, _, _, rfl, _⟩ := h; rfl) | (obtain ⟨_, _, _, _, _, _, _, _, _, rfl, _⟩ := h; rfl) | exact T.len_of h
def b__law_mixed {K : Fg} : BS K :=
  bsSeq (bsAsg (bOp (oMod) (bOp (oMul) (bOp (oAdd) (bVar 0) (bOp (oMul) (bInt 7919) (bVar 1))) (bInt 48271)) (bInt 2147483647)) (bgN 2)) (bsRet (bOp (oMod) (bOp (oMul) (bVar 2) (bOp (oAdd) (bOp (oAdd) (bOp (oMod) (bVar 2) (bInt 65537)) (bVar 1)) (bInt 1))) (bInt 2147483647)))
theorem len__law_mixed : ∀ ds ω Φ, W__law_mixed ds ω Φ → ds.length = 2 := by
  intro ds ω Φ h
  first | (obtain ⟨rfl, _⟩ := h; rfl) | (obtain ⟨_, rfl, _⟩ := h; rfl) | (obtain ⟨_, _, rfl, _⟩ := h; rfl) | (obtain ⟨_, _, _, rfl, _⟩ := h; rfl) | (obtain ⟨_, _, _, _, rfl, _⟩ := h; rfl) | (obtain ⟨_, _, _, _, _, rfl, _⟩ := h; rfl) | (obtain ⟨_, _, _, _, _, _, rfl, _⟩ := h; rfl) | (obtain ⟨_, _, _, _, _, _, _, rfl, _⟩ := h; rfl) | (obtain ⟨_, _, _, _, _, _, _, _, rfl, _⟩ := h; rfl) | (obtain ⟨_, _, _, _, _, _, _, _, _, rfl, _⟩ := h; rfl) | exact T.len_of h
def b__law_word {K : Fg} : BS K :=
  bsSeq (bsAsg (bLit " !\"#$&'()*+,-./0123456789:;<=>?@ABCDEFGHIJKLMNOPQRSTUVWXYZ[\\]^_`abcdefghijklmnopqrstuvwxyz{|}~" S_07780f S_07780f_eq) (bgN 3)) (bsSeq (bsAsg (bOp (oAdd) (bVar 1) (bOp (oMod) (bVar 0) (bOp (oAdd) (bOp (oSub) (bVar 2) (bVar 1)) (bInt 1)))) (bgN 4)) (bsSeq (bsAsg (bOp (oMod) (bOp (oDiv) (bVar 0) (bInt 64)) (bCB cMax2 (baC (bVar 4) (baC (bInt 1) (baN))))) (bgN 5)) (bsSeq (bsIf (btC (bOp (oEq) (bVar 4) (bInt 0))) (bsRet (bLit "" [] (by decide +kernel))) (bsNext)) (bsRet (bOp (oAdd) (bOp (oAdd) (bOp (oMul) (bLit "k" [107] (by decide +kernel)) (bVar 5)) (bOp oIx (bVar 3) (bOp (oMod) (bOp (oDiv) (bVar 0) (bInt 2048)) (bCB cLen (baC (bVar 3) (baN)))))) (bOp (oMul) (bLit "k" [107] (by decide +kernel)) (bOp (oSub) (bOp (oSub) (bVar 4) (bInt 1)) (bVar 5))))))))
theorem len__law_word : ∀ ds ω Φ, W__law_word ds ω Φ → ds.length = 3 := by
  intro ds ω Φ h
  first | (obtain ⟨rfl, _⟩ := h; rfl) | (obtain ⟨_, rfl, _⟩ := h; rfl) | (obtain ⟨_, _, rfl, _⟩ := h; rfl) | (obtain ⟨_, _, _, rfl, _⟩ := h; rfl) | (obtain ⟨_, _, _, _, rfl, _⟩ := h; rfl) | (obtain ⟨_, _, _, _, _, rfl, _⟩ := h; rfl) | (obtain ⟨_, _, _, _, _, _, rfl, _⟩ := h; rfl) | (obtain ⟨_, _, _, _, _, _, _, rfl, _⟩ := h; rfl) | (obtain ⟨_, _, _, _, _, _, _, _, rfl, _⟩ := h; rfl) | (obtain ⟨_, _, _, _, _, _, _, _, _, rfl, _⟩ := h; rfl) | exact T.len_of h
end G

namespace G
open PySem L2 T
local macro_rules | `(tactic| walk_at "t_side") => `(tactic| first | assumption | omega | decide | (simp only [List.length_append, List.length_cons, List.length_nil, List.length_map, List.length_flatten, List.length_replicate]; done) | (simp only [List.length_append, List.length_cons, List.length_nil, List.length_map, List.length_flatten, List.length_replicate]; omega))
local macro_rules | `(tactic| walk_at "t_x1") => `(tactic| simp (disch := (walk_at "t_side")) only [↓x_optS, ↓x_cL, ↓x_cI, ↓x_cK, ↓x_sz, ↓x_rg1, ↓x_rg2, ↓x_varS, ↓x_var, ↓x_addS, ↓x_addT, ↓x_addL, ↓x_addOL, ↓x_mul, ↓x_mulS, ↓x_mulLF, ↓x_mulLT, ↓x_div, ↓x_mod, ↓x_pow4, ↓x_pow5, ↓x_pow6, ↓x_pow7, ↓x_pow9, ↓x_pow12, ↓x_pow60, ↓x_shr, ↓x_isT, ↓x_isF, ↓x_isNT, ↓x_isNF, ↓x_isN, ↓x_isNN, ↓x_non0, ↓x_non1, ↓x_non2, ↓x_non3, ↓x_non4, ↓x_non5, ↓x_non6, ↓x_ixS, ↓x_ixT, ↓x_ixC, ↓x_ixL, ↓x_ixR, ↓x_at0, ↓x_at1, ↓x_at2, ↓x_at3, ↓x_at4, ↓x_at5, ↓x_at6, ↓x_at7, ↓x_at8, ↓x_at9, ↓x_at10, ↓x_slS, ↓x_slL, ↓x_slLO, ↓x_slC, ↓x_slR, ↓x_slRO, ↓x_in, ↓x_nin, ↓x_truS, ↓x_lenS, ↓x_lenR, ↓x_isW0, ↓x_isW1, ↓x_isW2, ↓x_isW3, ↓x_isW4, ↓x_isW5, ↓x_isTii, ↓x_isTbi, ↓x_isTbb, ↓x_isTib, ↓x_isTss, ↓x_isTtt, ↓x_isTll, ↓x_isTnt, ↓x_isTst, ↓x_isTit, ↓x_isTlt, ↓x_isTbt, ↓x_isTni, ↓x_isTns, ↓x_isTis, ↓x_isTbs, ↓x_isTts, ↓x_isTls, ↓x_isTsi, ↓x_isTti, ↓x_isTli, ↓x_isTtl, ↓x_gT, ↓x_itR, ↓x_truR, ↓x_setS, ↓x_setN, ↓x_it, ↓x_con, ↓x_lit, ↓x_int, ↓x_op, ↓x_add, ↓x_sub, ↓x_neg, ↓x_lt, ↓x_le, ↓x_gt, ↓x_ge, ↓x_ltS, ↓x_leS, ↓x_gtS, ↓x_geS, ↓x_eqI, ↓x_eqS, ↓x_eqB, ↓x_neI, ↓x_neS, ↓x_neB, ↓x_eqN, ↓x_neN, ↓x_eqIN, ↓x_eqNI, ↓x_eqSN, ↓x_eqNS, ↓x_isB, ↓x_isNB, ↓x_sl, ↓x_oN, ↓x_oS, ↓x_slT, ↓x_baN, ↓x_baC, ↓x_tup, ↓x_lst, ↓x_lstO, ↓x_tru, ↓x_truB, ↓x_truN, ↓x_truI, ↓x_truT, ↓x_truL, ↓x_tC, ↓x_tB, ↓x_tand, ↓x_tor, ↓x_tnot, ↓x_yes, ↓x_and, ↓x_or, ↓x_not, ↓x_if, ↓x_chain, ↓x_bl, ↓x_cb, ↓x_lenT, ↓x_lenL, ↓x_lenC, ↓x_max, ↓x_min, ↓x_isi, ↓x_frz, ↓x_next, ↓x_break, ↓x_cont, ↓x_asg, ↓x_gsN, ↓x_gsC, ↓x_drop, ↓x_ret, ↓x_retN, ↓x_sif, ↓x_for, ↓x_seqI, ↓x_itL, ↓x_itT, ↓x_itC, ↓x_itS, ↓x_r1, ↓x_r2, ↓x_dk, ↓x_dt, ↓x_lc, ↓x_lcO, ↓x_need, ↓x_seqL, ↓x_seqT, ↓x_seqC, ↓x_seqR, ↓x_lstL, ↓x_lstR, ↓x_ints, ↓x_ints0, ↓x_ints1, ↓x_strs, ↓x_strs0, ↓x_strs1, ↓x_bls, ↓x_bls0, ↓x_bls1, ↓x_omap, ↓x_cl, ↓x_clO, ↓x_ctu, ↓x_strI, ↓x_strS, ↓x_intI, ↓x_intB, ↓x_intS, ↓x_ord, ↓x_sum, ↓x_maxL, ↓x_minL, ↓x_any, ↓x_all2, ↓x_bM, ↓x_bM0, ↓x_tyS, ↓x_tyL, ↓x_tyR, ↓x_tyC0, ↓x_tyC1, ↓x_tyC2, ↓x_needE, ↓x_app, ↓x_ext, ↓x_pop, ↓x_popAt, ↓x_rev, ↓x_clr, ↓x_ins, ↓x_split, ↓x_part, ↓x_join, ↓x_zf, ↓x_sidx, ↓x_eqE0, ↓x_eqE1, ↓x_set0, ↓x_set1, ↓x_gNs, ↓x_augs, ↓x_vr0, ↓x_vr1, ↓x_oa0, ↓x_oa1, ↓x_oa2, ↓x_oa3, ↓x_oa4, ↓x_oa5, ↓x_oa6, ↓x_oa7, ↓x_oa8, ↓x_oa9, ↓x_oa10, ↓x_cLS, ↓x_cLN, ↓x_ssL, ↓x_ssT, ↓x_ssC, ↓x_slsL, ↓x_oi, ↓x_oi0, ↓x_oi1, ↓x_os, ↓x_os0, ↓x_os1, ↓x_ob, ↓x_ob0, ↓x_ob1, ↓x_ntS, ↓x_ntL, ↓x_ntR, ↓x_ntN, ↓x_cutT1, ↓x_cutT2, ↓x_cutT0, ↓x_cutF1, ↓x_cutF2, ↓x_cutF3, ↓x_gT2, ↓x_gT3, ↓x_gT4, ↓x_gT5, ↓x_apd0, ↓x_apd1, ↓x_call0, ↓x_callD, ↓x_mulT, ↓x_fmt, ↓x_strW, ↓x_join2, ↓x_birev, ↓x_bienum, ↓x_lxL, ↓x_bizip, ↓x_lxZ, ↓x_birevS, ↓x_lxx0, ↓x_lxx1, ↓x_lxx2, ↓x_no, ↓x_band, ↓x_bor, ↓x_bxor, ↓x_shl, ↓x_cbk, ↓x_maxD, ↓x_sortI, ↓x_sortIo, ↓x_lenSetI, ↓x_ninR, ↓x_inR, ↓x_eqRL, ↓x_neRL, ↓x_gSub, ↓x_gsW, ↓x_sel, ↓x_sortKF, ↓x_sortKT, ↓x_one1, ↓x_itV, ↓x_kwL, ↓x_kwF, ↓x_kEnv, ↓x_vo0, ↓x_vo1, ↓x_revLF, ↓x_revLT, List.map_cons, List.map_nil, List.set_cons_zero, List.set_cons_succ, List.getElem?_cons_zero, List.getElem?_cons_succ, List.length_cons, List.length_nil, List.replicate, List.cons_append, List.nil_append, start_def, decide_eq_true_eq, Bool.not_eq_true, Bool.not_eq_true', Bool.and_eq_true, Bool.or_eq_true, decide_eq_false_iff_not, Bool.not_not, Bool.not_true, Bool.not_false, ↓reduceIte, wipeD, Bool.false_eq_true, reduceCtorEq, Nat.reduceSub, Nat.reduceAdd, and_true, true_and, List.isEmpty_cons, List.isEmpty_nil, not_true_eq_false, not_false_eq_true, or_false, or_true, true_or, false_or, and_false, false_and, Bool.true_or, Bool.false_or, Bool.or_true, Bool.or_false, Bool.true_and, Bool.and_true, Bool.false_and, Bool.and_false, bne_iff_ne, ne_eq, implies_true, List.append_nil, Int.cast_ofNat_Int, Int.reduceEq, Int.reduceLT, Int.reduceLE, Int.reduceAdd, Int.reduceSub, Int.reduceMul, Int.reduceNeg, Int.reduceToNat, decide_true, decide_false, Int.reduceMod, Int.reduceDiv, Nat.reduceMul, List.flatten_nil, List.flatten_cons])
local macro_rules | `(tactic| walk_at "t_xs1") => `(tactic| simp (disch := (walk_at "t_side")) only [↓x_seq, ↓x_optS, ↓x_cL, ↓x_cI, ↓x_cK, ↓x_sz, ↓x_rg1, ↓x_rg2, ↓x_varS, ↓x_var, ↓x_addS, ↓x_addT, ↓x_addL, ↓x_addOL, ↓x_mul, ↓x_mulS, ↓x_mulLF, ↓x_mulLT, ↓x_div, ↓x_mod, ↓x_pow4, ↓x_pow5, ↓x_pow6, ↓x_pow7, ↓x_pow9, ↓x_pow12, ↓x_pow60, ↓x_shr, ↓x_isT, ↓x_isF, ↓x_isNT, ↓x_isNF, ↓x_isN, ↓x_isNN, ↓x_non0, ↓x_non1, ↓x_non2, ↓x_non3, ↓x_non4, ↓x_non5, ↓x_non6, ↓x_ixS, ↓x_ixT, ↓x_ixC, ↓x_ixL, ↓x_ixR, ↓x_at0, ↓x_at1, ↓x_at2, ↓x_at3, ↓x_at4, ↓x_at5, ↓x_at6, ↓x_at7, ↓x_at8, ↓x_at9, ↓x_at10, ↓x_slS, ↓x_slL, ↓x_slLO, ↓x_slC, ↓x_slR, ↓x_slRO, ↓x_in, ↓x_nin, ↓x_truS, ↓x_lenS, ↓x_lenR, ↓x_isW0, ↓x_isW1, ↓x_isW2, ↓x_isW3, ↓x_isW4, ↓x_isW5, ↓x_isTii, ↓x_isTbi, ↓x_isTbb, ↓x_isTib, ↓x_isTss, ↓x_isTtt, ↓x_isTll, ↓x_isTnt, ↓x_isTst, ↓x_isTit, ↓x_isTlt, ↓x_isTbt, ↓x_isTni, ↓x_isTns, ↓x_isTis, ↓x_isTbs, ↓x_isTts, ↓x_isTls, ↓x_isTsi, ↓x_isTti, ↓x_isTli, ↓x_isTtl, ↓x_gT, ↓x_itR, ↓x_truR, ↓x_setS, ↓x_setN, ↓x_it, ↓x_con, ↓x_lit, ↓x_int, ↓x_op, ↓x_add, ↓x_sub, ↓x_neg, ↓x_lt, ↓x_le, ↓x_gt, ↓x_ge, ↓x_ltS, ↓x_leS, ↓x_gtS, ↓x_geS, ↓x_eqI, ↓x_eqS, ↓x_eqB, ↓x_neI, ↓x_neS, ↓x_neB, ↓x_eqN, ↓x_neN, ↓x_eqIN, ↓x_eqNI, ↓x_eqSN, ↓x_eqNS, ↓x_isB, ↓x_isNB, ↓x_sl, ↓x_oN, ↓x_oS, ↓x_slT, ↓x_baN, ↓x_baC, ↓x_tup, ↓x_lst, ↓x_lstO, ↓x_tru, ↓x_truB, ↓x_truN, ↓x_truI, ↓x_truT, ↓x_truL, ↓x_tC, ↓x_tB, ↓x_tand, ↓x_tor, ↓x_tnot, ↓x_yes, ↓x_and, ↓x_or, ↓x_not, ↓x_if, ↓x_chain, ↓x_bl, ↓x_cb, ↓x_lenT, ↓x_lenL, ↓x_lenC, ↓x_max, ↓x_min, ↓x_isi, ↓x_frz, ↓x_next, ↓x_break, ↓x_cont, ↓x_asg, ↓x_gsN, ↓x_gsC, ↓x_drop, ↓x_ret, ↓x_retN, ↓x_sif, ↓x_for, ↓x_seqI, ↓x_itL, ↓x_itT, ↓x_itC, ↓x_itS, ↓x_r1, ↓x_r2, ↓x_dk, ↓x_dt, ↓x_lc, ↓x_lcO, ↓x_need, ↓x_seqL, ↓x_seqT, ↓x_seqC, ↓x_seqR, ↓x_lstL, ↓x_lstR, ↓x_ints, ↓x_ints0, ↓x_ints1, ↓x_strs, ↓x_strs0, ↓x_strs1, ↓x_bls, ↓x_bls0, ↓x_bls1, ↓x_omap, ↓x_cl, ↓x_clO, ↓x_ctu, ↓x_strI, ↓x_strS, ↓x_intI, ↓x_intB, ↓x_intS, ↓x_ord, ↓x_sum, ↓x_maxL, ↓x_minL, ↓x_any, ↓x_all2, ↓x_bM, ↓x_bM0, ↓x_tyS, ↓x_tyL, ↓x_tyR, ↓x_tyC0, ↓x_tyC1, ↓x_tyC2, ↓x_needE, ↓x_app, ↓x_ext, ↓x_pop, ↓x_popAt, ↓x_rev, ↓x_clr, ↓x_ins, ↓x_split, ↓x_part, ↓x_join, ↓x_zf, ↓x_sidx, ↓x_eqE0, ↓x_eqE1, ↓x_set0, ↓x_set1, ↓x_gNs, ↓x_augs, ↓x_vr0, ↓x_vr1, ↓x_oa0, ↓x_oa1, ↓x_oa2, ↓x_oa3, ↓x_oa4, ↓x_oa5, ↓x_oa6, ↓x_oa7, ↓x_oa8, ↓x_oa9, ↓x_oa10, ↓x_cLS, ↓x_cLN, ↓x_ssL, ↓x_ssT, ↓x_ssC, ↓x_slsL, ↓x_oi, ↓x_oi0, ↓x_oi1, ↓x_os, ↓x_os0, ↓x_os1, ↓x_ob, ↓x_ob0, ↓x_ob1, ↓x_ntS, ↓x_ntL, ↓x_ntR, ↓x_ntN, ↓x_cutT1, ↓x_cutT2, ↓x_cutT0, ↓x_cutF1, ↓x_cutF2, ↓x_cutF3, ↓x_gT2, ↓x_gT3, ↓x_gT4, ↓x_gT5, ↓x_apd0, ↓x_apd1, ↓x_call0, ↓x_callD, ↓x_mulT, ↓x_fmt, ↓x_strW, ↓x_join2, ↓x_birev, ↓x_bienum, ↓x_lxL, ↓x_bizip, ↓x_lxZ, ↓x_birevS, ↓x_lxx0, ↓x_lxx1, ↓x_lxx2, ↓x_no, ↓x_band, ↓x_bor, ↓x_bxor, ↓x_shl, ↓x_cbk, ↓x_maxD, ↓x_sortI, ↓x_sortIo, ↓x_lenSetI, ↓x_ninR, ↓x_inR, ↓x_eqRL, ↓x_neRL, ↓x_gSub, ↓x_gsW, ↓x_sel, ↓x_sortKF, ↓x_sortKT, ↓x_one1, ↓x_itV, ↓x_kwL, ↓x_kwF, ↓x_kEnv, ↓x_vo0, ↓x_vo1, ↓x_revLF, ↓x_revLT, List.map_cons, List.map_nil, List.set_cons_zero, List.set_cons_succ, List.getElem?_cons_zero, List.getElem?_cons_succ, List.length_cons, List.length_nil, List.replicate, List.cons_append, List.nil_append, start_def, decide_eq_true_eq, Bool.not_eq_true, Bool.not_eq_true', Bool.and_eq_true, Bool.or_eq_true, decide_eq_false_iff_not, Bool.not_not, Bool.not_true, Bool.not_false, ↓reduceIte, wipeD, Bool.false_eq_true, reduceCtorEq, Nat.reduceSub, Nat.reduceAdd, and_true, true_and, List.isEmpty_cons, List.isEmpty_nil, not_true_eq_false, not_false_eq_true, or_false, or_true, true_or, false_or, and_false, false_and, Bool.true_or, Bool.false_or, Bool.or_true, Bool.or_false, Bool.true_and, Bool.and_true, Bool.false_and, Bool.and_false, bne_iff_ne, ne_eq, implies_true, List.append_nil, Int.cast_ofNat_Int, Int.reduceEq, Int.reduceLT, Int.reduceLE, Int.reduceAdd, Int.reduceSub, Int.reduceMul, Int.reduceNeg, Int.reduceToNat, decide_true, decide_false, Int.reduceMod, Int.reduceDiv, Nat.reduceMul, List.flatten_nil, List.flatten_cons])
local macro_rules | `(tactic| walk_at "t_x") => `(tactic| ((try (simp only [start_def]; simp only [List.map_cons, List.map_nil, List.length_cons, List.length_nil, Nat.reduceAdd, Nat.reduceSub, List.replicate, List.cons_append, List.nil_append])); try (walk_at "t_x1"; try walk_at "t_x1")))
local macro_rules | `(tactic| walk_at "t_xs") => `(tactic| ((try (simp only [start_def]; simp only [List.map_cons, List.map_nil, List.length_cons, List.length_nil, Nat.reduceAdd, Nat.reduceSub, List.replicate, List.cons_append, List.nil_append])); try (walk_at "t_xs1"; try walk_at "t_xs1")))
variable {K : Fg} {ω : Om} {Φ : D → Om → Prop}
theorem ty_ref {ω : Om} {a : Addr} {T : String} (h : tyD ω (.ref a) = some T) : T = "list" ∨ T = "dict" := by
  unfold tyD at h
  simp only at h
  split at h <;> cases h <;> simp
theorem ty_str {ω : Om} {d : D} {T : String} (h : tyD ω d = some T) : isT T "str" = (d matches .str _) := by
  cases d with
  | ref a => rcases ty_ref h with rfl | rfl <;> rfl
  | _ => cases h; try rfl
theorem ty_int {ω : Om} {d : D} {T : String} (h : tyD ω d = some T) : isT T "int" = ((d matches .int _) || (d matches .bl _)) := by
  cases d with
  | ref a => rcases ty_ref h with rfl | rfl <;> rfl
  | _ => cases h; try rfl
theorem ty_tup {ω : Om} {d : D} {T : String} (h : tyD ω d = some T) : isT T "tuple" = (d matches .tup _) := by
  cases d with
  | ref a => rcases ty_ref h with rfl | rfl <;> rfl
  | _ => cases h; try rfl
theorem isW_of {U T : String} {d : D} {ω : Om} {Φ : D → Om → Prop} (h : tyD ω d = some T) : isW1 U d ω Φ = Φ (.bl (isT T U)) ω := by unfold isW1; rw [h]
theorem lt_one (a b : Nat) : ltS [a] [b] = decide (a < b) := by
  unfold ltS
  rw [Bool.eq_iff_iff]
  simp [List.cons_lt_cons_iff]
theorem x_isRt {a : Addr} {F : D → Om → Prop} (h : okD ω (.ref a)) : isW1 "tuple" (.ref a) ω F = F (.bl false) ω := by
  obtain ⟨⟨T, hT⟩, _⟩ := h
  rw [isW_of hT, ty_tup hT]
theorem x_isRs {a : Addr} {F : D → Om → Prop} (h : okD ω (.ref a)) : isW1 "str" (.ref a) ω F = F (.bl false) ω := by
  obtain ⟨⟨T, hT⟩, _⟩ := h
  rw [isW_of hT, ty_str hT]
theorem x_isRi {a : Addr} {F : D → Om → Prop} (h : ∃ T, tyD ω (.ref a) = some T) : isW1 "int" (.ref a) ω F = F (.bl false) ω := by
  obtain ⟨T, hT⟩ := h
  rw [isW_of hT, ty_int hT]; rfl
theorem x_isC {ns : List Int} {U : String} {F : D → Om → Prop} : isW1 U (.scr ns) ω F = F (.bl (isT "list" U)) ω := rfl
local macro_rules | `(tactic| walk_at "t_side") => `(tactic| first | assumption | omega | decide | (simp only [List.length_append, List.length_cons, List.length_nil, List.length_map, List.length_flatten, List.length_replicate]; done) | (simp only [List.length_append, List.length_cons, List.length_nil, List.length_map, List.length_flatten, List.length_replicate]; omega))
local macro_rules | `(tactic| walk_at "t_x1") => `(tactic| simp (disch := (walk_at "t_side")) only [↓x_isRt, ↓x_isRs, ↓x_isRi, ↓x_isC, ↓x_optS, ↓x_cL, ↓x_cI, ↓x_cK, ↓x_sz, ↓x_rg1, ↓x_rg2, ↓x_varS, ↓x_var, ↓x_addS, ↓x_addT, ↓x_addL, ↓x_addOL, ↓x_mul, ↓x_mulS, ↓x_mulLF, ↓x_mulLT, ↓x_div, ↓x_mod, ↓x_pow4, ↓x_pow5, ↓x_pow6, ↓x_pow7, ↓x_pow9, ↓x_pow12, ↓x_pow60, ↓x_shr, ↓x_isT, ↓x_isF, ↓x_isNT, ↓x_isNF, ↓x_isN, ↓x_isNN, ↓x_non0, ↓x_non1, ↓x_non2, ↓x_non3, ↓x_non4, ↓x_non5, ↓x_non6, ↓x_ixS, ↓x_ixT, ↓x_ixC, ↓x_ixL, ↓x_ixR, ↓x_at0, ↓x_at1, ↓x_at2, ↓x_at3, ↓x_at4, ↓x_at5, ↓x_at6, ↓x_at7, ↓x_at8, ↓x_at9, ↓x_at10, ↓x_slS, ↓x_slL, ↓x_slLO, ↓x_slC, ↓x_slR, ↓x_slRO, ↓x_in, ↓x_nin, ↓x_truS, ↓x_lenS, ↓x_lenR, ↓x_isW0, ↓x_isW1, ↓x_isW2, ↓x_isW3, ↓x_isW4, ↓x_isW5, ↓x_isTii, ↓x_isTbi, ↓x_isTbb, ↓x_isTib, ↓x_isTss, ↓x_isTtt, ↓x_isTll, ↓x_isTnt, ↓x_isTst, ↓x_isTit, ↓x_isTlt, ↓x_isTbt, ↓x_isTni, ↓x_isTns, ↓x_isTis, ↓x_isTbs, ↓x_isTts, ↓x_isTls, ↓x_isTsi, ↓x_isTti, ↓x_isTli, ↓x_isTtl, ↓x_gT, ↓x_itR, ↓x_truR, ↓x_setS, ↓x_setN, ↓x_it, ↓x_con, ↓x_lit, ↓x_int, ↓x_op, ↓x_add, ↓x_sub, ↓x_neg, ↓x_lt, ↓x_le, ↓x_gt, ↓x_ge, ↓x_ltS, ↓x_leS, ↓x_gtS, ↓x_geS, ↓x_eqI, ↓x_eqS, ↓x_eqB, ↓x_neI, ↓x_neS, ↓x_neB, ↓x_eqN, ↓x_neN, ↓x_eqIN, ↓x_eqNI, ↓x_eqSN, ↓x_eqNS, ↓x_isB, ↓x_isNB, ↓x_sl, ↓x_oN, ↓x_oS, ↓x_slT, ↓x_baN, ↓x_baC, ↓x_tup, ↓x_lst, ↓x_lstO, ↓x_tru, ↓x_truB, ↓x_truN, ↓x_truI, ↓x_truT, ↓x_truL, ↓x_tC, ↓x_tB, ↓x_tand, ↓x_tor, ↓x_tnot, ↓x_yes, ↓x_and, ↓x_or, ↓x_not, ↓x_if, ↓x_chain, ↓x_bl, ↓x_cb, ↓x_lenT, ↓x_lenL, ↓x_lenC, ↓x_max, ↓x_min, ↓x_isi, ↓x_frz, ↓x_next, ↓x_break, ↓x_cont, ↓x_asg, ↓x_gsN, ↓x_gsC, ↓x_drop, ↓x_ret, ↓x_retN, ↓x_sif, ↓x_for, ↓x_seqI, ↓x_itL, ↓x_itT, ↓x_itC, ↓x_itS, ↓x_r1, ↓x_r2, ↓x_dk, ↓x_dt, ↓x_lc, ↓x_lcO, ↓x_need, ↓x_seqL, ↓x_seqT, ↓x_seqC, ↓x_seqR, ↓x_lstL, ↓x_lstR, ↓x_ints, ↓x_ints0, ↓x_ints1, ↓x_strs, ↓x_strs0, ↓x_strs1, ↓x_bls, ↓x_bls0, ↓x_bls1, ↓x_omap, ↓x_cl, ↓x_clO, ↓x_ctu, ↓x_strI, ↓x_strS, ↓x_intI, ↓x_intB, ↓x_intS, ↓x_ord, ↓x_sum, ↓x_maxL, ↓x_minL, ↓x_any, ↓x_all2, ↓x_bM, ↓x_bM0, ↓x_tyS, ↓x_tyL, ↓x_tyR, ↓x_tyC0, ↓x_tyC1, ↓x_tyC2, ↓x_needE, ↓x_app, ↓x_ext, ↓x_pop, ↓x_popAt, ↓x_rev, ↓x_clr, ↓x_ins, ↓x_split, ↓x_part, ↓x_join, ↓x_zf, ↓x_sidx, ↓x_eqE0, ↓x_eqE1, ↓x_set0, ↓x_set1, ↓x_gNs, ↓x_augs, ↓x_vr0, ↓x_vr1, ↓x_oa0, ↓x_oa1, ↓x_oa2, ↓x_oa3, ↓x_oa4, ↓x_oa5, ↓x_oa6, ↓x_oa7, ↓x_oa8, ↓x_oa9, ↓x_oa10, ↓x_cLS, ↓x_cLN, ↓x_ssL, ↓x_ssT, ↓x_ssC, ↓x_slsL, ↓x_oi, ↓x_oi0, ↓x_oi1, ↓x_os, ↓x_os0, ↓x_os1, ↓x_ob, ↓x_ob0, ↓x_ob1, ↓x_ntS, ↓x_ntL, ↓x_ntR, ↓x_ntN, ↓x_cutT1, ↓x_cutT2, ↓x_cutT0, ↓x_cutF1, ↓x_cutF2, ↓x_cutF3, ↓x_gT2, ↓x_gT3, ↓x_gT4, ↓x_gT5, ↓x_apd0, ↓x_apd1, ↓x_call0, ↓x_callD, ↓x_mulT, ↓x_fmt, ↓x_strW, ↓x_join2, ↓x_birev, ↓x_bienum, ↓x_lxL, ↓x_bizip, ↓x_lxZ, ↓x_birevS, ↓x_lxx0, ↓x_lxx1, ↓x_lxx2, ↓x_no, ↓x_band, ↓x_bor, ↓x_bxor, ↓x_shl, ↓x_cbk, ↓x_maxD, ↓x_sortI, ↓x_sortIo, ↓x_lenSetI, ↓x_ninR, ↓x_inR, ↓x_eqRL, ↓x_neRL, ↓x_gSub, ↓x_gsW, ↓x_sel, ↓x_sortKF, ↓x_sortKT, ↓x_one1, ↓x_itV, ↓x_kwL, ↓x_kwF, ↓x_kEnv, ↓x_vo0, ↓x_vo1, ↓x_revLF, ↓x_revLT, List.map_cons, List.map_nil, List.set_cons_zero, List.set_cons_succ, List.getElem?_cons_zero, List.getElem?_cons_succ, List.length_cons, List.length_nil, List.replicate, List.cons_append, List.nil_append, start_def, decide_eq_true_eq, Bool.not_eq_true, Bool.not_eq_true', Bool.and_eq_true, Bool.or_eq_true, decide_eq_false_iff_not, Bool.not_not, Bool.not_true, Bool.not_false, ↓reduceIte, wipeD, Bool.false_eq_true, reduceCtorEq, Nat.reduceSub, Nat.reduceAdd, and_true, true_and, List.isEmpty_cons, List.isEmpty_nil, not_true_eq_false, not_false_eq_true, or_false, or_true, true_or, false_or, and_false, false_and, Bool.true_or, Bool.false_or, Bool.or_true, Bool.or_false, Bool.true_and, Bool.and_true, Bool.false_and, Bool.and_false, bne_iff_ne, ne_eq, implies_true, List.append_nil, Int.cast_ofNat_Int, Int.reduceEq, Int.reduceLT, Int.reduceLE, Int.reduceAdd, Int.reduceSub, Int.reduceMul, Int.reduceNeg, Int.reduceToNat, decide_true, decide_false, Int.reduceMod, Int.reduceDiv, Nat.reduceMul, List.flatten_nil, List.flatten_cons])
local macro_rules | `(tactic| walk_at "t_xs1") => `(tactic| simp (disch := (walk_at "t_side")) only [↓x_seq, ↓x_isRt, ↓x_isRs, ↓x_isRi, ↓x_isC, ↓x_optS, ↓x_cL, ↓x_cI, ↓x_cK, ↓x_sz, ↓x_rg1, ↓x_rg2, ↓x_varS, ↓x_var, ↓x_addS, ↓x_addT, ↓x_addL, ↓x_addOL, ↓x_mul, ↓x_mulS, ↓x_mulLF, ↓x_mulLT, ↓x_div, ↓x_mod, ↓x_pow4, ↓x_pow5, ↓x_pow6, ↓x_pow7, ↓x_pow9, ↓x_pow12, ↓x_pow60, ↓x_shr, ↓x_isT, ↓x_isF, ↓x_isNT, ↓x_isNF, ↓x_isN, ↓x_isNN, ↓x_non0, ↓x_non1, ↓x_non2, ↓x_non3, ↓x_non4, ↓x_non5, ↓x_non6, ↓x_ixS, ↓x_ixT, ↓x_ixC, ↓x_ixL, ↓x_ixR, ↓x_at0, ↓x_at1, ↓x_at2, ↓x_at3, ↓x_at4, ↓x_at5, ↓x_at6, ↓x_at7, ↓x_at8, ↓x_at9, ↓x_at10, ↓x_slS, ↓x_slL, ↓x_slLO, ↓x_slC, ↓x_slR, ↓x_slRO, ↓x_in, ↓x_nin, ↓x_truS, ↓x_lenS, ↓x_lenR, ↓x_isW0, ↓x_isW1, ↓x_isW2, ↓x_isW3, ↓x_isW4, ↓x_isW5, ↓x_isTii, ↓x_isTbi, ↓x_isTbb, ↓x_isTib, ↓x_isTss, ↓x_isTtt, ↓x_isTll, ↓x_isTnt, ↓x_isTst, ↓x_isTit, ↓x_isTlt, ↓x_isTbt, ↓x_isTni, ↓x_isTns, ↓x_isTis, ↓x_isTbs, ↓x_isTts, ↓x_isTls, ↓x_isTsi, ↓x_isTti, ↓x_isTli, ↓x_isTtl, ↓x_gT, ↓x_itR, ↓x_truR, ↓x_setS, ↓x_setN, ↓x_it, ↓x_con, ↓x_lit, ↓x_int, ↓x_op, ↓x_add, ↓x_sub, ↓x_neg, ↓x_lt, ↓x_le, ↓x_gt, ↓x_ge, ↓x_ltS, ↓x_leS, ↓x_gtS, ↓x_geS, ↓x_eqI, ↓x_eqS, ↓x_eqB, ↓x_neI, ↓x_neS, ↓x_neB, ↓x_eqN, ↓x_neN, ↓x_eqIN, ↓x_eqNI, ↓x_eqSN, ↓x_eqNS, ↓x_isB, ↓x_isNB, ↓x_sl, ↓x_oN, ↓x_oS, ↓x_slT, ↓x_baN, ↓x_baC, ↓x_tup, ↓x_lst, ↓x_lstO, ↓x_tru, ↓x_truB, ↓x_truN, ↓x_truI, ↓x_truT, ↓x_truL, ↓x_tC, ↓x_tB, ↓x_tand, ↓x_tor, ↓x_tnot, ↓x_yes, ↓x_and, ↓x_or, ↓x_not, ↓x_if, ↓x_chain, ↓x_bl, ↓x_cb, ↓x_lenT, ↓x_lenL, ↓x_lenC, ↓x_max, ↓x_min, ↓x_isi, ↓x_frz, ↓x_next, ↓x_break, ↓x_cont, ↓x_asg, ↓x_gsN, ↓x_gsC, ↓x_drop, ↓x_ret, ↓x_retN, ↓x_sif, ↓x_for, ↓x_seqI, ↓x_itL, ↓x_itT, ↓x_itC, ↓x_itS, ↓x_r1, ↓x_r2, ↓x_dk, ↓x_dt, ↓x_lc, ↓x_lcO, ↓x_need, ↓x_seqL, ↓x_seqT, ↓x_seqC, ↓x_seqR, ↓x_lstL, ↓x_lstR, ↓x_ints, ↓x_ints0, ↓x_ints1, ↓x_strs, ↓x_strs0, ↓x_strs1, ↓x_bls, ↓x_bls0, ↓x_bls1, ↓x_omap, ↓x_cl, ↓x_clO, ↓x_ctu, ↓x_strI, ↓x_strS, ↓x_intI, ↓x_intB, ↓x_intS, ↓x_ord, ↓x_sum, ↓x_maxL, ↓x_minL, ↓x_any, ↓x_all2, ↓x_bM, ↓x_bM0, ↓x_tyS, ↓x_tyL, ↓x_tyR, ↓x_tyC0, ↓x_tyC1, ↓x_tyC2, ↓x_needE, ↓x_app, ↓x_ext, ↓x_pop, ↓x_popAt, ↓x_rev, ↓x_clr, ↓x_ins, ↓x_split, ↓x_part, ↓x_join, ↓x_zf, ↓x_sidx, ↓x_eqE0, ↓x_eqE1, ↓x_set0, ↓x_set1, ↓x_gNs, ↓x_augs, ↓x_vr0, ↓x_vr1, ↓x_oa0, ↓x_oa1, ↓x_oa2, ↓x_oa3, ↓x_oa4, ↓x_oa5, ↓x_oa6, ↓x_oa7, ↓x_oa8, ↓x_oa9, ↓x_oa10, ↓x_cLS, ↓x_cLN, ↓x_ssL, ↓x_ssT, ↓x_ssC, ↓x_slsL, ↓x_oi, ↓x_oi0, ↓x_oi1, ↓x_os, ↓x_os0, ↓x_os1, ↓x_ob, ↓x_ob0, ↓x_ob1, ↓x_ntS, ↓x_ntL, ↓x_ntR, ↓x_ntN, ↓x_cutT1, ↓x_cutT2, ↓x_cutT0, ↓x_cutF1, ↓x_cutF2, ↓x_cutF3, ↓x_gT2, ↓x_gT3, ↓x_gT4, ↓x_gT5, ↓x_apd0, ↓x_apd1, ↓x_call0, ↓x_callD, ↓x_mulT, ↓x_fmt, ↓x_strW, ↓x_join2, ↓x_birev, ↓x_bienum, ↓x_lxL, ↓x_bizip, ↓x_lxZ, ↓x_birevS, ↓x_lxx0, ↓x_lxx1, ↓x_lxx2, ↓x_no, ↓x_band, ↓x_bor, ↓x_bxor, ↓x_shl, ↓x_cbk, ↓x_maxD, ↓x_sortI, ↓x_sortIo, ↓x_lenSetI, ↓x_ninR, ↓x_inR, ↓x_eqRL, ↓x_neRL, ↓x_gSub, ↓x_gsW, ↓x_sel, ↓x_sortKF, ↓x_sortKT, ↓x_one1, ↓x_itV, ↓x_kwL, ↓x_kwF, ↓x_kEnv, ↓x_vo0, ↓x_vo1, ↓x_revLF, ↓x_revLT, List.map_cons, List.map_nil, List.set_cons_zero, List.set_cons_succ, List.getElem?_cons_zero, List.getElem?_cons_succ, List.length_cons, List.length_nil, List.replicate, List.cons_append, List.nil_append, start_def, decide_eq_true_eq, Bool.not_eq_true, Bool.not_eq_true', Bool.and_eq_true, Bool.or_eq_true, decide_eq_false_iff_not, Bool.not_not, Bool.not_true, Bool.not_false, ↓reduceIte, wipeD, Bool.false_eq_true, reduceCtorEq, Nat.reduceSub, Nat.reduceAdd, and_true, true_and, List.isEmpty_cons, List.isEmpty_nil, not_true_eq_false, not_false_eq_true, or_false, or_true, true_or, false_or, and_false, false_and, Bool.true_or, Bool.false_or, Bool.or_true, Bool.or_false, Bool.true_and, Bool.and_true, Bool.false_and, Bool.and_false, bne_iff_ne, ne_eq, implies_true, List.append_nil, Int.cast_ofNat_Int, Int.reduceEq, Int.reduceLT, Int.reduceLE, Int.reduceAdd, Int.reduceSub, Int.reduceMul, Int.reduceNeg, Int.reduceToNat, decide_true, decide_false, Int.reduceMod, Int.reduceDiv, Nat.reduceMul, List.flatten_nil, List.flatten_cons])
local macro_rules | `(tactic| walk_at "t_x") => `(tactic| ((try (simp only [start_def]; simp only [List.map_cons, List.map_nil, List.length_cons, List.length_nil, Nat.reduceAdd, Nat.reduceSub, List.replicate, List.cons_append, List.nil_append])); try (walk_at "t_x1"; try walk_at "t_x1")))
local macro_rules | `(tactic| walk_at "t_xs") => `(tactic| ((try (simp only [start_def]; simp only [List.map_cons, List.map_nil, List.length_cons, List.length_nil, Nat.reduceAdd, Nat.reduceSub, List.replicate, List.cons_append, List.nil_append])); try (walk_at "t_xs1"; try walk_at "t_xs1")))
theorem exn_no {a : Addr} {dd : Option Addr} {c f : Str} {d : D} {n : Bool} (h : ∃ T, tyD ω (.exn a dd c f d n) = some T) {P : Prop} : P := by
  obtain ⟨T, h⟩ := h
  cases h
theorem hw_is_text : ∀ ds ω Φ, W_is_text ds ω Φ → (b_is_text : BS K).w (startD 4 ds) ω ⟨fun _ ω => Φ .non ω, Φ, fun _ _ => False, fun _ _ => False, fun _ _ _ => False⟩ := by
  rintro ds ω Φ ⟨d, l, m, rfl, hd, h⟩
  unfold b_is_text
  cases d with
  | exn => exact exn_no hd.1
  | clo => exact absurd hd.1 (fun ⟨_, h⟩ => nomatch h)
  | str s =>
    have hs := hd.2 s rfl
    walk_at "t_xs"
    refine iteI (fun c1 => ?_) (fun c1 => ?_)
    · walk_at "t_xs"
      refine iteI (fun c2 => ?_) (fun c2 => ?_)
      · have e : isTx l m (D.str s) = false := by simp [isTx]; omega
        rw [e] at h; exact h
      · refine lc_map1 (fun d => match d with | .str [c] => .bl (okc c) | _ => .non) _ _ (by rw [sizeLine_eq]; simp; omega) trivial (fun d hd Q hq => ?_) ?_
        · obtain ⟨c, hc, rfl⟩ := List.mem_map.mp hd
          walk_at "t_xs"
          rw [lt_one, lt_one]
          refine iteI (fun c3 => ?_) (fun c3 => ?_)
          · have c3 : 32 ≤ c := by simpa using c3
            have e : okc c = !decide (126 < c) := by
              unfold okc
              rw [decide_eq_true c3, Bool.true_and, Bool.eq_iff_iff]
              simp
            rw [← e]
            exact hq
          · have e : okc c = false := by
              unfold okc
              have c3 : c < 32 := by simpa using c3
              rw [decide_eq_false (by omega : ¬ 32 ≤ c), Bool.false_and]
            rw [← e]
            exact hq
        · rw [List.nil_append, List.map_map]
          have e : (List.map ((fun d => match d with | D.str [c] => D.bl (okc c) | _ => D.non) ∘ fun c => D.str [c]) s) = (s.map okc).map D.bl := by
            rw [List.map_map]; rfl
          rw [e]
          walk_at "t_xs"
          have e2 : isTx l m (D.str s) = (s.map okc).all id := by
            show (decide _ && decide _ && _) = _
            rw [decide_eq_true (by omega), decide_eq_true (by omega), List.all_map]; rfl
          rw [← e2]
          exact h
    · walk_at "t_xs"
      have e : isTx l m (D.str s) = false := by simp [isTx]; omega
      rw [e] at h
      exact h
  | _ => walk_at "t_xs"; exact h
theorem hw_is_key : ∀ ds ω Φ, W_is_key ds ω Φ → (b_is_key : BS K).w (startD 1 ds) ω ⟨fun _ ω => Φ .non ω, Φ, fun _ _ => False, fun _ _ => False, fun _ _ _ => False⟩ := by
  rintro ds ω Φ ⟨d, rfl, hs, h⟩
  unfold b_is_key k_MOST_KEY
  walk_at "t_xs"
  exact ⟨d, 1, 20, rfl, hs, h⟩
theorem hw_is_value : ∀ ds ω Φ, W_is_value ds ω Φ → (b_is_value : BS K).w (startD 1 ds) ω ⟨fun _ ω => Φ .non ω, Φ, fun _ _ => False, fun _ _ => False, fun _ _ _ => False⟩ := by
  rintro ds ω Φ ⟨d, rfl, hs, h⟩
  unfold b_is_value k_MOST_VALUE
  walk_at "t_xs"
  exact ⟨d, 0, 40, rfl, hs, h⟩
theorem hw_is_whole : ∀ ds ω Φ, W_is_whole ds ω Φ → (b_is_whole : BS K).w (startD 3 ds) ω ⟨fun _ ω => Φ .non ω, Φ, fun _ _ => False, fun _ _ => False, fun _ _ _ => False⟩ := by
  rintro ds ω Φ ⟨d, l, m, rfl, hT, h⟩
  unfold b_is_whole
  cases d with
  | exn => exact exn_no hT
  | clo => exact absurd hT (fun ⟨_, h⟩ => nomatch h)
  | int i =>
    walk_at "t_xs"
    refine iteI (fun c => ?_) (fun c => ?_)
    · have e : isWh l m (D.int i) = decide (i ≤ m) := by simp [isWh, c]
      rw [← e]; exact h
    · have e : isWh l m (D.int i) = false := by simp [isWh]; omega
      rw [← e]; exact h
  | _ => walk_at "t_xs"; exact h
theorem hw_is_stamp : ∀ ds ω Φ, W_is_stamp ds ω Φ → (b_is_stamp : BS K).w (startD 1 ds) ω ⟨fun _ ω => Φ .non ω, Φ, fun _ _ => False, fun _ _ => False, fun _ _ _ => False⟩ := by
  rintro ds ω Φ ⟨d, rfl, hT, h⟩
  unfold b_is_stamp k_MOST_STAMP
  walk_at "t_xs"
  exact ⟨d, 1, 999999999, rfl, hT, h⟩
theorem x_is_key {d : D} (h : okD ω d) : W_is_key [d] ω Φ = Φ (.bl (isKey d)) ω := propext ⟨fun ⟨a, e, _, z⟩ => by injection e with e1 e2; subst e1; exact z, fun z => ⟨d, rfl, h, z⟩⟩
theorem x_is_value {d : D} (h : okD ω d) : W_is_value [d] ω Φ = Φ (.bl (isVal d)) ω := propext ⟨fun ⟨a, e, _, z⟩ => by injection e with e1 e2; subst e1; exact z, fun z => ⟨d, rfl, h, z⟩⟩
theorem x_is_stamp {d : D} (h : ∃ T, tyD ω d = some T) : W_is_stamp [d] ω Φ = Φ (.bl (isStp d)) ω := propext ⟨fun ⟨a, e, _, z⟩ => by injection e with e1 e2; subst e1; exact z, fun z => ⟨d, rfl, h, z⟩⟩
theorem x_is_stamp' {d : D} (h : okD ω d) : W_is_stamp [d] ω Φ = Φ (.bl (isStp d)) ω := x_is_stamp h.1
theorem x_is_entry {d : D} (h : okP ω d) : W_is_entry [d] ω Φ = Φ (.bl (isEnt d)) ω := propext ⟨fun ⟨a, e, _, z⟩ => by injection e with e1 e2; subst e1; exact z, fun z => ⟨d, rfl, h, z⟩⟩
theorem x_is_deed {d : D} (h : okP ω d) : W_is_deed [d] ω Φ = Φ (.bl (isDeed d)) ω := propext ⟨fun ⟨a, e, _, z⟩ => by injection e with e1 e2; subst e1; exact z, fun z => ⟨d, rfl, h, z⟩⟩
theorem okD_str {s : List Nat} (h : s.length ≤ 10000000) : okD ω (.str s) := ⟨⟨_, rfl⟩, fun _ e => by cases e; exact h⟩
theorem okD_int {i : Int} : okD ω (.int i) := ⟨⟨_, rfl⟩, fun _ e => nomatch e⟩
theorem okD_bl {i : Bool} : okD ω (.bl i) := ⟨⟨_, rfl⟩, fun _ e => nomatch e⟩
theorem okD_non : okD ω .non := ⟨⟨_, rfl⟩, fun _ e => nomatch e⟩
theorem okD_tup {ds : List D} : okD ω (.tup ds) := ⟨⟨_, rfl⟩, fun _ e => nomatch e⟩
theorem okD_lst {ds : List D} : okD ω (.lst ds) := ⟨⟨_, rfl⟩, fun _ e => nomatch e⟩
theorem okD_ref {a : Addr} {T : String} (h : tyD ω (.ref a) = some T) : okD ω (.ref a) := ⟨⟨_, h⟩, fun _ e => nomatch e⟩
local macro_rules | `(tactic| walk_at "t_side") => `(tactic| first | assumption | omega | decide | (simp only [List.length_append, List.length_cons, List.length_nil, List.length_map, List.length_flatten, List.length_replicate]; done) | (simp only [List.length_append, List.length_cons, List.length_nil, List.length_map, List.length_flatten, List.length_replicate]; omega))
local macro_rules | `(tactic| walk_at "t_x1") => `(tactic| simp (disch := (walk_at "t_side")) only [↓x_is_key, ↓x_is_value, ↓x_is_stamp', ↓x_isRt, ↓x_isRs, ↓x_isRi, ↓x_isC, ↓x_optS, ↓x_cL, ↓x_cI, ↓x_cK, ↓x_sz, ↓x_rg1, ↓x_rg2, ↓x_varS, ↓x_var, ↓x_addS, ↓x_addT, ↓x_addL, ↓x_addOL, ↓x_mul, ↓x_mulS, ↓x_mulLF, ↓x_mulLT, ↓x_div, ↓x_mod, ↓x_pow4, ↓x_pow5, ↓x_pow6, ↓x_pow7, ↓x_pow9, ↓x_pow12, ↓x_pow60, ↓x_shr, ↓x_isT, ↓x_isF, ↓x_isNT, ↓x_isNF, ↓x_isN, ↓x_isNN, ↓x_non0, ↓x_non1, ↓x_non2, ↓x_non3, ↓x_non4, ↓x_non5, ↓x_non6, ↓x_ixS, ↓x_ixT, ↓x_ixC, ↓x_ixL, ↓x_ixR, ↓x_at0, ↓x_at1, ↓x_at2, ↓x_at3, ↓x_at4, ↓x_at5, ↓x_at6, ↓x_at7, ↓x_at8, ↓x_at9, ↓x_at10, ↓x_slS, ↓x_slL, ↓x_slLO, ↓x_slC, ↓x_slR, ↓x_slRO, ↓x_in, ↓x_nin, ↓x_truS, ↓x_lenS, ↓x_lenR, ↓x_isW0, ↓x_isW1, ↓x_isW2, ↓x_isW3, ↓x_isW4, ↓x_isW5, ↓x_isTii, ↓x_isTbi, ↓x_isTbb, ↓x_isTib, ↓x_isTss, ↓x_isTtt, ↓x_isTll, ↓x_isTnt, ↓x_isTst, ↓x_isTit, ↓x_isTlt, ↓x_isTbt, ↓x_isTni, ↓x_isTns, ↓x_isTis, ↓x_isTbs, ↓x_isTts, ↓x_isTls, ↓x_isTsi, ↓x_isTti, ↓x_isTli, ↓x_isTtl, ↓x_gT, ↓x_itR, ↓x_truR, ↓x_setS, ↓x_setN, ↓x_it, ↓x_con, ↓x_lit, ↓x_int, ↓x_op, ↓x_add, ↓x_sub, ↓x_neg, ↓x_lt, ↓x_le, ↓x_gt, ↓x_ge, ↓x_ltS, ↓x_leS, ↓x_gtS, ↓x_geS, ↓x_eqI, ↓x_eqS, ↓x_eqB, ↓x_neI, ↓x_neS, ↓x_neB, ↓x_eqN, ↓x_neN, ↓x_eqIN, ↓x_eqNI, ↓x_eqSN, ↓x_eqNS, ↓x_isB, ↓x_isNB, ↓x_sl, ↓x_oN, ↓x_oS, ↓x_slT, ↓x_baN, ↓x_baC, ↓x_tup, ↓x_lst, ↓x_lstO, ↓x_tru, ↓x_truB, ↓x_truN, ↓x_truI, ↓x_truT, ↓x_truL, ↓x_tC, ↓x_tB, ↓x_tand, ↓x_tor, ↓x_tnot, ↓x_yes, ↓x_and, ↓x_or, ↓x_not, ↓x_if, ↓x_chain, ↓x_bl, ↓x_cb, ↓x_lenT, ↓x_lenL, ↓x_lenC, ↓x_max, ↓x_min, ↓x_isi, ↓x_frz, ↓x_next, ↓x_break, ↓x_cont, ↓x_asg, ↓x_gsN, ↓x_gsC, ↓x_drop, ↓x_ret, ↓x_retN, ↓x_sif, ↓x_for, ↓x_seqI, ↓x_itL, ↓x_itT, ↓x_itC, ↓x_itS, ↓x_r1, ↓x_r2, ↓x_dk, ↓x_dt, ↓x_lc, ↓x_lcO, ↓x_need, ↓x_seqL, ↓x_seqT, ↓x_seqC, ↓x_seqR, ↓x_lstL, ↓x_lstR, ↓x_ints, ↓x_ints0, ↓x_ints1, ↓x_strs, ↓x_strs0, ↓x_strs1, ↓x_bls, ↓x_bls0, ↓x_bls1, ↓x_omap, ↓x_cl, ↓x_clO, ↓x_ctu, ↓x_strI, ↓x_strS, ↓x_intI, ↓x_intB, ↓x_intS, ↓x_ord, ↓x_sum, ↓x_maxL, ↓x_minL, ↓x_any, ↓x_all2, ↓x_bM, ↓x_bM0, ↓x_tyS, ↓x_tyL, ↓x_tyR, ↓x_tyC0, ↓x_tyC1, ↓x_tyC2, ↓x_needE, ↓x_app, ↓x_ext, ↓x_pop, ↓x_popAt, ↓x_rev, ↓x_clr, ↓x_ins, ↓x_split, ↓x_part, ↓x_join, ↓x_zf, ↓x_sidx, ↓x_eqE0, ↓x_eqE1, ↓x_set0, ↓x_set1, ↓x_gNs, ↓x_augs, ↓x_vr0, ↓x_vr1, ↓x_oa0, ↓x_oa1, ↓x_oa2, ↓x_oa3, ↓x_oa4, ↓x_oa5, ↓x_oa6, ↓x_oa7, ↓x_oa8, ↓x_oa9, ↓x_oa10, ↓x_cLS, ↓x_cLN, ↓x_ssL, ↓x_ssT, ↓x_ssC, ↓x_slsL, ↓x_oi, ↓x_oi0, ↓x_oi1, ↓x_os, ↓x_os0, ↓x_os1, ↓x_ob, ↓x_ob0, ↓x_ob1, ↓x_ntS, ↓x_ntL, ↓x_ntR, ↓x_ntN, ↓x_cutT1, ↓x_cutT2, ↓x_cutT0, ↓x_cutF1, ↓x_cutF2, ↓x_cutF3, ↓x_gT2, ↓x_gT3, ↓x_gT4, ↓x_gT5, ↓x_apd0, ↓x_apd1, ↓x_call0, ↓x_callD, ↓x_mulT, ↓x_fmt, ↓x_strW, ↓x_join2, ↓x_birev, ↓x_bienum, ↓x_lxL, ↓x_bizip, ↓x_lxZ, ↓x_birevS, ↓x_lxx0, ↓x_lxx1, ↓x_lxx2, ↓x_no, ↓x_band, ↓x_bor, ↓x_bxor, ↓x_shl, ↓x_cbk, ↓x_maxD, ↓x_sortI, ↓x_sortIo, ↓x_lenSetI, ↓x_ninR, ↓x_inR, ↓x_eqRL, ↓x_neRL, ↓x_gSub, ↓x_gsW, ↓x_sel, ↓x_sortKF, ↓x_sortKT, ↓x_one1, ↓x_itV, ↓x_kwL, ↓x_kwF, ↓x_kEnv, ↓x_vo0, ↓x_vo1, ↓x_revLF, ↓x_revLT, List.map_cons, List.map_nil, List.set_cons_zero, List.set_cons_succ, List.getElem?_cons_zero, List.getElem?_cons_succ, List.length_cons, List.length_nil, List.replicate, List.cons_append, List.nil_append, start_def, decide_eq_true_eq, Bool.not_eq_true, Bool.not_eq_true', Bool.and_eq_true, Bool.or_eq_true, decide_eq_false_iff_not, Bool.not_not, Bool.not_true, Bool.not_false, ↓reduceIte, wipeD, Bool.false_eq_true, reduceCtorEq, Nat.reduceSub, Nat.reduceAdd, and_true, true_and, List.isEmpty_cons, List.isEmpty_nil, not_true_eq_false, not_false_eq_true, or_false, or_true, true_or, false_or, and_false, false_and, Bool.true_or, Bool.false_or, Bool.or_true, Bool.or_false, Bool.true_and, Bool.and_true, Bool.false_and, Bool.and_false, bne_iff_ne, ne_eq, implies_true, List.append_nil, Int.cast_ofNat_Int, Int.reduceEq, Int.reduceLT, Int.reduceLE, Int.reduceAdd, Int.reduceSub, Int.reduceMul, Int.reduceNeg, Int.reduceToNat, decide_true, decide_false, Int.reduceMod, Int.reduceDiv, Nat.reduceMul, List.flatten_nil, List.flatten_cons])
local macro_rules | `(tactic| walk_at "t_xs1") => `(tactic| simp (disch := (walk_at "t_side")) only [↓x_seq, ↓x_is_key, ↓x_is_value, ↓x_is_stamp', ↓x_isRt, ↓x_isRs, ↓x_isRi, ↓x_isC, ↓x_optS, ↓x_cL, ↓x_cI, ↓x_cK, ↓x_sz, ↓x_rg1, ↓x_rg2, ↓x_varS, ↓x_var, ↓x_addS, ↓x_addT, ↓x_addL, ↓x_addOL, ↓x_mul, ↓x_mulS, ↓x_mulLF, ↓x_mulLT, ↓x_div, ↓x_mod, ↓x_pow4, ↓x_pow5, ↓x_pow6, ↓x_pow7, ↓x_pow9, ↓x_pow12, ↓x_pow60, ↓x_shr, ↓x_isT, ↓x_isF, ↓x_isNT, ↓x_isNF, ↓x_isN, ↓x_isNN, ↓x_non0, ↓x_non1, ↓x_non2, ↓x_non3, ↓x_non4, ↓x_non5, ↓x_non6, ↓x_ixS, ↓x_ixT, ↓x_ixC, ↓x_ixL, ↓x_ixR, ↓x_at0, ↓x_at1, ↓x_at2, ↓x_at3, ↓x_at4, ↓x_at5, ↓x_at6, ↓x_at7, ↓x_at8, ↓x_at9, ↓x_at10, ↓x_slS, ↓x_slL, ↓x_slLO, ↓x_slC, ↓x_slR, ↓x_slRO, ↓x_in, ↓x_nin, ↓x_truS, ↓x_lenS, ↓x_lenR, ↓x_isW0, ↓x_isW1, ↓x_isW2, ↓x_isW3, ↓x_isW4, ↓x_isW5, ↓x_isTii, ↓x_isTbi, ↓x_isTbb, ↓x_isTib, ↓x_isTss, ↓x_isTtt, ↓x_isTll, ↓x_isTnt, ↓x_isTst, ↓x_isTit, ↓x_isTlt, ↓x_isTbt, ↓x_isTni, ↓x_isTns, ↓x_isTis, ↓x_isTbs, ↓x_isTts, ↓x_isTls, ↓x_isTsi, ↓x_isTti, ↓x_isTli, ↓x_isTtl, ↓x_gT, ↓x_itR, ↓x_truR, ↓x_setS, ↓x_setN, ↓x_it, ↓x_con, ↓x_lit, ↓x_int, ↓x_op, ↓x_add, ↓x_sub, ↓x_neg, ↓x_lt, ↓x_le, ↓x_gt, ↓x_ge, ↓x_ltS, ↓x_leS, ↓x_gtS, ↓x_geS, ↓x_eqI, ↓x_eqS, ↓x_eqB, ↓x_neI, ↓x_neS, ↓x_neB, ↓x_eqN, ↓x_neN, ↓x_eqIN, ↓x_eqNI, ↓x_eqSN, ↓x_eqNS, ↓x_isB, ↓x_isNB, ↓x_sl, ↓x_oN, ↓x_oS, ↓x_slT, ↓x_baN, ↓x_baC, ↓x_tup, ↓x_lst, ↓x_lstO, ↓x_tru, ↓x_truB, ↓x_truN, ↓x_truI, ↓x_truT, ↓x_truL, ↓x_tC, ↓x_tB, ↓x_tand, ↓x_tor, ↓x_tnot, ↓x_yes, ↓x_and, ↓x_or, ↓x_not, ↓x_if, ↓x_chain, ↓x_bl, ↓x_cb, ↓x_lenT, ↓x_lenL, ↓x_lenC, ↓x_max, ↓x_min, ↓x_isi, ↓x_frz, ↓x_next, ↓x_break, ↓x_cont, ↓x_asg, ↓x_gsN, ↓x_gsC, ↓x_drop, ↓x_ret, ↓x_retN, ↓x_sif, ↓x_for, ↓x_seqI, ↓x_itL, ↓x_itT, ↓x_itC, ↓x_itS, ↓x_r1, ↓x_r2, ↓x_dk, ↓x_dt, ↓x_lc, ↓x_lcO, ↓x_need, ↓x_seqL, ↓x_seqT, ↓x_seqC, ↓x_seqR, ↓x_lstL, ↓x_lstR, ↓x_ints, ↓x_ints0, ↓x_ints1, ↓x_strs, ↓x_strs0, ↓x_strs1, ↓x_bls, ↓x_bls0, ↓x_bls1, ↓x_omap, ↓x_cl, ↓x_clO, ↓x_ctu, ↓x_strI, ↓x_strS, ↓x_intI, ↓x_intB, ↓x_intS, ↓x_ord, ↓x_sum, ↓x_maxL, ↓x_minL, ↓x_any, ↓x_all2, ↓x_bM, ↓x_bM0, ↓x_tyS, ↓x_tyL, ↓x_tyR, ↓x_tyC0, ↓x_tyC1, ↓x_tyC2, ↓x_needE, ↓x_app, ↓x_ext, ↓x_pop, ↓x_popAt, ↓x_rev, ↓x_clr, ↓x_ins, ↓x_split, ↓x_part, ↓x_join, ↓x_zf, ↓x_sidx, ↓x_eqE0, ↓x_eqE1, ↓x_set0, ↓x_set1, ↓x_gNs, ↓x_augs, ↓x_vr0, ↓x_vr1, ↓x_oa0, ↓x_oa1, ↓x_oa2, ↓x_oa3, ↓x_oa4, ↓x_oa5, ↓x_oa6, ↓x_oa7, ↓x_oa8, ↓x_oa9, ↓x_oa10, ↓x_cLS, ↓x_cLN, ↓x_ssL, ↓x_ssT, ↓x_ssC, ↓x_slsL, ↓x_oi, ↓x_oi0, ↓x_oi1, ↓x_os, ↓x_os0, ↓x_os1, ↓x_ob, ↓x_ob0, ↓x_ob1, ↓x_ntS, ↓x_ntL, ↓x_ntR, ↓x_ntN, ↓x_cutT1, ↓x_cutT2, ↓x_cutT0, ↓x_cutF1, ↓x_cutF2, ↓x_cutF3, ↓x_gT2, ↓x_gT3, ↓x_gT4, ↓x_gT5, ↓x_apd0, ↓x_apd1, ↓x_call0, ↓x_callD, ↓x_mulT, ↓x_fmt, ↓x_strW, ↓x_join2, ↓x_birev, ↓x_bienum, ↓x_lxL, ↓x_bizip, ↓x_lxZ, ↓x_birevS, ↓x_lxx0, ↓x_lxx1, ↓x_lxx2, ↓x_no, ↓x_band, ↓x_bor, ↓x_bxor, ↓x_shl, ↓x_cbk, ↓x_maxD, ↓x_sortI, ↓x_sortIo, ↓x_lenSetI, ↓x_ninR, ↓x_inR, ↓x_eqRL, ↓x_neRL, ↓x_gSub, ↓x_gsW, ↓x_sel, ↓x_sortKF, ↓x_sortKT, ↓x_one1, ↓x_itV, ↓x_kwL, ↓x_kwF, ↓x_kEnv, ↓x_vo0, ↓x_vo1, ↓x_revLF, ↓x_revLT, List.map_cons, List.map_nil, List.set_cons_zero, List.set_cons_succ, List.getElem?_cons_zero, List.getElem?_cons_succ, List.length_cons, List.length_nil, List.replicate, List.cons_append, List.nil_append, start_def, decide_eq_true_eq, Bool.not_eq_true, Bool.not_eq_true', Bool.and_eq_true, Bool.or_eq_true, decide_eq_false_iff_not, Bool.not_not, Bool.not_true, Bool.not_false, ↓reduceIte, wipeD, Bool.false_eq_true, reduceCtorEq, Nat.reduceSub, Nat.reduceAdd, and_true, true_and, List.isEmpty_cons, List.isEmpty_nil, not_true_eq_false, not_false_eq_true, or_false, or_true, true_or, false_or, and_false, false_and, Bool.true_or, Bool.false_or, Bool.or_true, Bool.or_false, Bool.true_and, Bool.and_true, Bool.false_and, Bool.and_false, bne_iff_ne, ne_eq, implies_true, List.append_nil, Int.cast_ofNat_Int, Int.reduceEq, Int.reduceLT, Int.reduceLE, Int.reduceAdd, Int.reduceSub, Int.reduceMul, Int.reduceNeg, Int.reduceToNat, decide_true, decide_false, Int.reduceMod, Int.reduceDiv, Nat.reduceMul, List.flatten_nil, List.flatten_cons])
local macro_rules | `(tactic| walk_at "t_x") => `(tactic| ((try (simp only [start_def]; simp only [List.map_cons, List.map_nil, List.length_cons, List.length_nil, Nat.reduceAdd, Nat.reduceSub, List.replicate, List.cons_append, List.nil_append])); try (walk_at "t_x1"; try walk_at "t_x1")))
local macro_rules | `(tactic| walk_at "t_xs") => `(tactic| ((try (simp only [start_def]; simp only [List.map_cons, List.map_nil, List.length_cons, List.length_nil, Nat.reduceAdd, Nat.reduceSub, List.replicate, List.cons_append, List.nil_append])); try (walk_at "t_xs1"; try walk_at "t_xs1")))
theorem hw_is_entry : ∀ ds ω Φ, W_is_entry ds ω Φ → (b_is_entry : BS K).w (startD 1 ds) ω ⟨fun _ ω => Φ .non ω, Φ, fun _ _ => False, fun _ _ => False, fun _ _ _ => False⟩ := by
  rintro ds ω Φ ⟨d, rfl, ⟨hd, hp⟩, h⟩
  unfold b_is_entry
  cases d with
  | exn => exact exn_no hd.1
  | clo => exact absurd hd.1 (fun ⟨_, h⟩ => nomatch h)
  | tup es =>
    have hp := hp es rfl
    match es, hp, h with
    | [k, s, v], hp, h =>
      have h1 := hp k (by simp)
      have h2 := hp s (by simp)
      have h3 := hp v (by simp)
      walk_at "t_xs"
      have e : isEnt (.tup [k, s, v]) = (isKey k && isStp s && (isNon v || isVal v)) := rfl
      rw [e] at h
      cases a1 : isKey k <;> cases a2 : isStp s <;> cases a3 : isNon v <;> cases a4 : isVal v <;> simp only [a1, a2, a3, a4] at h ⊢ <;> simpa using h
    | [], hp, h => walk_at "t_xs"; exact h
    | [_], hp, h => walk_at "t_xs"; exact h
    | [_, _], hp, h => walk_at "t_xs"; exact h
    | a :: b :: c :: e :: r, hp, h =>
      have h1 := hp a (by simp)
      have h2 := hp b (by simp)
      have h3 := hp c (by simp)
      walk_at "t_xs"
      have : ¬ ((((r.length + 1 + 1 + 1 + 1 : Nat)) : Int) = 3) := by omega
      simp only [this, not_false_eq_true, true_or, if_true]
      exact h
  | _ => walk_at "t_xs"; exact h
theorem hw_is_deed : ∀ ds ω Φ, W_is_deed ds ω Φ → (b_is_deed : BS K).w (startD 1 ds) ω ⟨fun _ ω => Φ .non ω, Φ, fun _ _ => False, fun _ _ => False, fun _ _ _ => False⟩ := by
  rintro ds ω Φ ⟨d, rfl, ⟨hd, hp⟩, h⟩
  unfold b_is_deed
  cases d with
  | exn => exact exn_no hd.1
  | clo => exact absurd hd.1 (fun ⟨_, h⟩ => nomatch h)
  | tup es =>
    have hp := hp es rfl
    match es, hp, h with
    | [], hp, h => walk_at "t_xs"; exact h
    | w :: r, hp, h =>
      have hw := hp w (by simp)
      cases w with
      | exn => exact exn_no hw.1
      | clo => exact absurd hw.1 (fun ⟨_, h⟩ => nomatch h)
      | str w =>
        match r, hp, h with
        | [], hp, h =>
          walk_at "t_xs"
          refine iteI (fun c => ?_) (fun c => ?_)
          · exact h
          · refine iteI (fun c2 => ?_) (fun c2 => ?_)
            · exact h
            · rw [decide_eq_false c2]; exact h
        | [k], hp, h =>
          have h1 := hp k (by simp)
          walk_at "t_xs"
          refine iteI (fun c => ?_) (fun c => ?_)
          · have e : isDeed (.tup [.str w, k]) = (decide (w = [100, 114, 111, 112]) && isKey k) := rfl
            rw [e, decide_eq_true c, Bool.true_and] at h
            exact h
          · have e : isDeed (.tup [.str w, k]) = (decide (w = [100, 114, 111, 112]) && isKey k) := rfl
            rw [e, decide_eq_false c, Bool.false_and] at h
            refine iteI (fun c2 => ?_) (fun c2 => ?_)
            · exact h
            · rw [decide_eq_false c2]; exact h
        | [k, v], hp, h =>
          have h1 := hp k (by simp)
          have h2 := hp v (by simp)
          walk_at "t_xs"
          have e : isDeed (.tup [.str w, k, v]) = (decide (w = [112, 117, 116]) && isKey k && isVal v) := rfl
          rw [e] at h
          refine iteI (fun c => ?_) (fun c => ?_)
          · rw [c, show decide ([100, 114, 111, 112] = [112, 117, 116]) = false from rfl] at h
            exact h
          · refine iteI (fun c2 => ?_) (fun c2 => ?_)
            · rw [decide_eq_true c2, Bool.true_and] at h
              cases a1 : isKey k
              · rw [a1] at h; simpa using h
              · rw [a1] at h; simpa using h
            · rw [decide_eq_false c2] at h ⊢; exact h
        | a :: b :: c :: q, hp, h =>
          have h1 := hp a (by simp)
          have h2 := hp b (by simp)
          have h3 := hp c (by simp)
          have n2 : ¬ ((((q.length + 1 + 1 + 1 + 1 : Nat)) : Int) = 2) := by omega
          have n3 : ¬ ((((q.length + 1 + 1 + 1 + 1 : Nat)) : Int) = 3) := by omega
          walk_at "t_xs"
          simp only [n2, n3, if_false, decide_false]
          have e : isDeed (.tup (.str w :: a :: b :: c :: q)) = false := rfl
          rw [e] at h
          by_cases c : w = [100, 114, 111, 112]
          · rw [if_pos c]; exact h
          · rw [if_neg c]
            by_cases c2 : w = [112, 117, 116]
            · rw [if_pos c2]; exact h
            · rw [if_neg c2, decide_eq_false c2]; exact h
      | _ => walk_at "t_xs"; exact h
  | _ => walk_at "t_xs"; exact h
end G

namespace G
open PySem L2 T
local macro_rules | `(tactic| walk_at "t_side") => `(tactic| first | assumption | omega | decide | (simp only [List.length_append, List.length_cons, List.length_nil, List.length_map, List.length_flatten, List.length_replicate]; done) | (simp only [List.length_append, List.length_cons, List.length_nil, List.length_map, List.length_flatten, List.length_replicate]; omega))
local macro_rules | `(tactic| walk_at "t_x1") => `(tactic| simp (disch := (walk_at "t_side")) only [↓x_optS, ↓x_cL, ↓x_cI, ↓x_cK, ↓x_sz, ↓x_rg1, ↓x_rg2, ↓x_varS, ↓x_var, ↓x_addS, ↓x_addT, ↓x_addL, ↓x_addOL, ↓x_mul, ↓x_mulS, ↓x_mulLF, ↓x_mulLT, ↓x_div, ↓x_mod, ↓x_pow4, ↓x_pow5, ↓x_pow6, ↓x_pow7, ↓x_pow9, ↓x_pow12, ↓x_pow60, ↓x_shr, ↓x_isT, ↓x_isF, ↓x_isNT, ↓x_isNF, ↓x_isN, ↓x_isNN, ↓x_non0, ↓x_non1, ↓x_non2, ↓x_non3, ↓x_non4, ↓x_non5, ↓x_non6, ↓x_ixS, ↓x_ixT, ↓x_ixC, ↓x_ixL, ↓x_ixR, ↓x_at0, ↓x_at1, ↓x_at2, ↓x_at3, ↓x_at4, ↓x_at5, ↓x_at6, ↓x_at7, ↓x_at8, ↓x_at9, ↓x_at10, ↓x_slS, ↓x_slL, ↓x_slLO, ↓x_slC, ↓x_slR, ↓x_slRO, ↓x_in, ↓x_nin, ↓x_truS, ↓x_lenS, ↓x_lenR, ↓x_isW0, ↓x_isW1, ↓x_isW2, ↓x_isW3, ↓x_isW4, ↓x_isW5, ↓x_isTii, ↓x_isTbi, ↓x_isTbb, ↓x_isTib, ↓x_isTss, ↓x_isTtt, ↓x_isTll, ↓x_isTnt, ↓x_isTst, ↓x_isTit, ↓x_isTlt, ↓x_isTbt, ↓x_isTni, ↓x_isTns, ↓x_isTis, ↓x_isTbs, ↓x_isTts, ↓x_isTls, ↓x_isTsi, ↓x_isTti, ↓x_isTli, ↓x_isTtl, ↓x_gT, ↓x_itR, ↓x_truR, ↓x_setS, ↓x_setN, ↓x_it, ↓x_con, ↓x_lit, ↓x_int, ↓x_op, ↓x_add, ↓x_sub, ↓x_neg, ↓x_lt, ↓x_le, ↓x_gt, ↓x_ge, ↓x_ltS, ↓x_leS, ↓x_gtS, ↓x_geS, ↓x_eqI, ↓x_eqS, ↓x_eqB, ↓x_neI, ↓x_neS, ↓x_neB, ↓x_eqN, ↓x_neN, ↓x_eqIN, ↓x_eqNI, ↓x_eqSN, ↓x_eqNS, ↓x_isB, ↓x_isNB, ↓x_sl, ↓x_oN, ↓x_oS, ↓x_slT, ↓x_baN, ↓x_baC, ↓x_tup, ↓x_lst, ↓x_lstO, ↓x_tru, ↓x_truB, ↓x_truN, ↓x_truI, ↓x_truT, ↓x_truL, ↓x_tC, ↓x_tB, ↓x_tand, ↓x_tor, ↓x_tnot, ↓x_yes, ↓x_and, ↓x_or, ↓x_not, ↓x_if, ↓x_chain, ↓x_bl, ↓x_cb, ↓x_lenT, ↓x_lenL, ↓x_lenC, ↓x_max, ↓x_min, ↓x_isi, ↓x_frz, ↓x_next, ↓x_break, ↓x_cont, ↓x_asg, ↓x_gsN, ↓x_gsC, ↓x_drop, ↓x_ret, ↓x_retN, ↓x_sif, ↓x_for, ↓x_seqI, ↓x_itL, ↓x_itT, ↓x_itC, ↓x_itS, ↓x_r1, ↓x_r2, ↓x_dk, ↓x_dt, ↓x_lc, ↓x_lcO, ↓x_need, ↓x_seqL, ↓x_seqT, ↓x_seqC, ↓x_seqR, ↓x_lstL, ↓x_lstR, ↓x_ints, ↓x_ints0, ↓x_ints1, ↓x_strs, ↓x_strs0, ↓x_strs1, ↓x_bls, ↓x_bls0, ↓x_bls1, ↓x_omap, ↓x_cl, ↓x_clO, ↓x_ctu, ↓x_strI, ↓x_strS, ↓x_intI, ↓x_intB, ↓x_intS, ↓x_ord, ↓x_sum, ↓x_maxL, ↓x_minL, ↓x_any, ↓x_all2, ↓x_bM, ↓x_bM0, ↓x_tyS, ↓x_tyL, ↓x_tyR, ↓x_tyC0, ↓x_tyC1, ↓x_tyC2, ↓x_needE, ↓x_app, ↓x_ext, ↓x_pop, ↓x_popAt, ↓x_rev, ↓x_clr, ↓x_ins, ↓x_split, ↓x_part, ↓x_join, ↓x_zf, ↓x_sidx, ↓x_eqE0, ↓x_eqE1, ↓x_set0, ↓x_set1, ↓x_gNs, ↓x_augs, ↓x_vr0, ↓x_vr1, ↓x_oa0, ↓x_oa1, ↓x_oa2, ↓x_oa3, ↓x_oa4, ↓x_oa5, ↓x_oa6, ↓x_oa7, ↓x_oa8, ↓x_oa9, ↓x_oa10, ↓x_cLS, ↓x_cLN, ↓x_ssL, ↓x_ssT, ↓x_ssC, ↓x_slsL, ↓x_oi, ↓x_oi0, ↓x_oi1, ↓x_os, ↓x_os0, ↓x_os1, ↓x_ob, ↓x_ob0, ↓x_ob1, ↓x_ntS, ↓x_ntL, ↓x_ntR, ↓x_ntN, ↓x_cutT1, ↓x_cutT2, ↓x_cutT0, ↓x_cutF1, ↓x_cutF2, ↓x_cutF3, ↓x_gT2, ↓x_gT3, ↓x_gT4, ↓x_gT5, ↓x_apd0, ↓x_apd1, ↓x_call0, ↓x_callD, ↓x_mulT, ↓x_fmt, ↓x_strW, ↓x_join2, ↓x_birev, ↓x_bienum, ↓x_lxL, ↓x_bizip, ↓x_lxZ, ↓x_birevS, ↓x_lxx0, ↓x_lxx1, ↓x_lxx2, ↓x_no, ↓x_band, ↓x_bor, ↓x_bxor, ↓x_shl, ↓x_cbk, ↓x_maxD, ↓x_sortI, ↓x_sortIo, ↓x_lenSetI, ↓x_ninR, ↓x_inR, ↓x_eqRL, ↓x_neRL, ↓x_gSub, ↓x_gsW, ↓x_sel, ↓x_sortKF, ↓x_sortKT, ↓x_one1, ↓x_itV, ↓x_kwL, ↓x_kwF, ↓x_kEnv, ↓x_vo0, ↓x_vo1, ↓x_revLF, ↓x_revLT, List.map_cons, List.map_nil, List.set_cons_zero, List.set_cons_succ, List.getElem?_cons_zero, List.getElem?_cons_succ, List.length_cons, List.length_nil, List.replicate, List.cons_append, List.nil_append, start_def, decide_eq_true_eq, Bool.not_eq_true, Bool.not_eq_true', Bool.and_eq_true, Bool.or_eq_true, decide_eq_false_iff_not, Bool.not_not, Bool.not_true, Bool.not_false, ↓reduceIte, wipeD, Bool.false_eq_true, reduceCtorEq, Nat.reduceSub, Nat.reduceAdd, and_true, true_and, List.isEmpty_cons, List.isEmpty_nil, not_true_eq_false, not_false_eq_true, or_false, or_true, true_or, false_or, and_false, false_and, Bool.true_or, Bool.false_or, Bool.or_true, Bool.or_false, Bool.true_and, Bool.and_true, Bool.false_and, Bool.and_false, bne_iff_ne, ne_eq, implies_true, List.append_nil, Int.cast_ofNat_Int, Int.reduceEq, Int.reduceLT, Int.reduceLE, Int.reduceAdd, Int.reduceSub, Int.reduceMul, Int.reduceNeg, Int.reduceToNat, decide_true, decide_false, Int.reduceMod, Int.reduceDiv, Nat.reduceMul, List.flatten_nil, List.flatten_cons])
local macro_rules | `(tactic| walk_at "t_xs1") => `(tactic| simp (disch := (walk_at "t_side")) only [↓x_seq, ↓x_optS, ↓x_cL, ↓x_cI, ↓x_cK, ↓x_sz, ↓x_rg1, ↓x_rg2, ↓x_varS, ↓x_var, ↓x_addS, ↓x_addT, ↓x_addL, ↓x_addOL, ↓x_mul, ↓x_mulS, ↓x_mulLF, ↓x_mulLT, ↓x_div, ↓x_mod, ↓x_pow4, ↓x_pow5, ↓x_pow6, ↓x_pow7, ↓x_pow9, ↓x_pow12, ↓x_pow60, ↓x_shr, ↓x_isT, ↓x_isF, ↓x_isNT, ↓x_isNF, ↓x_isN, ↓x_isNN, ↓x_non0, ↓x_non1, ↓x_non2, ↓x_non3, ↓x_non4, ↓x_non5, ↓x_non6, ↓x_ixS, ↓x_ixT, ↓x_ixC, ↓x_ixL, ↓x_ixR, ↓x_at0, ↓x_at1, ↓x_at2, ↓x_at3, ↓x_at4, ↓x_at5, ↓x_at6, ↓x_at7, ↓x_at8, ↓x_at9, ↓x_at10, ↓x_slS, ↓x_slL, ↓x_slLO, ↓x_slC, ↓x_slR, ↓x_slRO, ↓x_in, ↓x_nin, ↓x_truS, ↓x_lenS, ↓x_lenR, ↓x_isW0, ↓x_isW1, ↓x_isW2, ↓x_isW3, ↓x_isW4, ↓x_isW5, ↓x_isTii, ↓x_isTbi, ↓x_isTbb, ↓x_isTib, ↓x_isTss, ↓x_isTtt, ↓x_isTll, ↓x_isTnt, ↓x_isTst, ↓x_isTit, ↓x_isTlt, ↓x_isTbt, ↓x_isTni, ↓x_isTns, ↓x_isTis, ↓x_isTbs, ↓x_isTts, ↓x_isTls, ↓x_isTsi, ↓x_isTti, ↓x_isTli, ↓x_isTtl, ↓x_gT, ↓x_itR, ↓x_truR, ↓x_setS, ↓x_setN, ↓x_it, ↓x_con, ↓x_lit, ↓x_int, ↓x_op, ↓x_add, ↓x_sub, ↓x_neg, ↓x_lt, ↓x_le, ↓x_gt, ↓x_ge, ↓x_ltS, ↓x_leS, ↓x_gtS, ↓x_geS, ↓x_eqI, ↓x_eqS, ↓x_eqB, ↓x_neI, ↓x_neS, ↓x_neB, ↓x_eqN, ↓x_neN, ↓x_eqIN, ↓x_eqNI, ↓x_eqSN, ↓x_eqNS, ↓x_isB, ↓x_isNB, ↓x_sl, ↓x_oN, ↓x_oS, ↓x_slT, ↓x_baN, ↓x_baC, ↓x_tup, ↓x_lst, ↓x_lstO, ↓x_tru, ↓x_truB, ↓x_truN, ↓x_truI, ↓x_truT, ↓x_truL, ↓x_tC, ↓x_tB, ↓x_tand, ↓x_tor, ↓x_tnot, ↓x_yes, ↓x_and, ↓x_or, ↓x_not, ↓x_if, ↓x_chain, ↓x_bl, ↓x_cb, ↓x_lenT, ↓x_lenL, ↓x_lenC, ↓x_max, ↓x_min, ↓x_isi, ↓x_frz, ↓x_next, ↓x_break, ↓x_cont, ↓x_asg, ↓x_gsN, ↓x_gsC, ↓x_drop, ↓x_ret, ↓x_retN, ↓x_sif, ↓x_for, ↓x_seqI, ↓x_itL, ↓x_itT, ↓x_itC, ↓x_itS, ↓x_r1, ↓x_r2, ↓x_dk, ↓x_dt, ↓x_lc, ↓x_lcO, ↓x_need, ↓x_seqL, ↓x_seqT, ↓x_seqC, ↓x_seqR, ↓x_lstL, ↓x_lstR, ↓x_ints, ↓x_ints0, ↓x_ints1, ↓x_strs, ↓x_strs0, ↓x_strs1, ↓x_bls, ↓x_bls0, ↓x_bls1, ↓x_omap, ↓x_cl, ↓x_clO, ↓x_ctu, ↓x_strI, ↓x_strS, ↓x_intI, ↓x_intB, ↓x_intS, ↓x_ord, ↓x_sum, ↓x_maxL, ↓x_minL, ↓x_any, ↓x_all2, ↓x_bM, ↓x_bM0, ↓x_tyS, ↓x_tyL, ↓x_tyR, ↓x_tyC0, ↓x_tyC1, ↓x_tyC2, ↓x_needE, ↓x_app, ↓x_ext, ↓x_pop, ↓x_popAt, ↓x_rev, ↓x_clr, ↓x_ins, ↓x_split, ↓x_part, ↓x_join, ↓x_zf, ↓x_sidx, ↓x_eqE0, ↓x_eqE1, ↓x_set0, ↓x_set1, ↓x_gNs, ↓x_augs, ↓x_vr0, ↓x_vr1, ↓x_oa0, ↓x_oa1, ↓x_oa2, ↓x_oa3, ↓x_oa4, ↓x_oa5, ↓x_oa6, ↓x_oa7, ↓x_oa8, ↓x_oa9, ↓x_oa10, ↓x_cLS, ↓x_cLN, ↓x_ssL, ↓x_ssT, ↓x_ssC, ↓x_slsL, ↓x_oi, ↓x_oi0, ↓x_oi1, ↓x_os, ↓x_os0, ↓x_os1, ↓x_ob, ↓x_ob0, ↓x_ob1, ↓x_ntS, ↓x_ntL, ↓x_ntR, ↓x_ntN, ↓x_cutT1, ↓x_cutT2, ↓x_cutT0, ↓x_cutF1, ↓x_cutF2, ↓x_cutF3, ↓x_gT2, ↓x_gT3, ↓x_gT4, ↓x_gT5, ↓x_apd0, ↓x_apd1, ↓x_call0, ↓x_callD, ↓x_mulT, ↓x_fmt, ↓x_strW, ↓x_join2, ↓x_birev, ↓x_bienum, ↓x_lxL, ↓x_bizip, ↓x_lxZ, ↓x_birevS, ↓x_lxx0, ↓x_lxx1, ↓x_lxx2, ↓x_no, ↓x_band, ↓x_bor, ↓x_bxor, ↓x_shl, ↓x_cbk, ↓x_maxD, ↓x_sortI, ↓x_sortIo, ↓x_lenSetI, ↓x_ninR, ↓x_inR, ↓x_eqRL, ↓x_neRL, ↓x_gSub, ↓x_gsW, ↓x_sel, ↓x_sortKF, ↓x_sortKT, ↓x_one1, ↓x_itV, ↓x_kwL, ↓x_kwF, ↓x_kEnv, ↓x_vo0, ↓x_vo1, ↓x_revLF, ↓x_revLT, List.map_cons, List.map_nil, List.set_cons_zero, List.set_cons_succ, List.getElem?_cons_zero, List.getElem?_cons_succ, List.length_cons, List.length_nil, List.replicate, List.cons_append, List.nil_append, start_def, decide_eq_true_eq, Bool.not_eq_true, Bool.not_eq_true', Bool.and_eq_true, Bool.or_eq_true, decide_eq_false_iff_not, Bool.not_not, Bool.not_true, Bool.not_false, ↓reduceIte, wipeD, Bool.false_eq_true, reduceCtorEq, Nat.reduceSub, Nat.reduceAdd, and_true, true_and, List.isEmpty_cons, List.isEmpty_nil, not_true_eq_false, not_false_eq_true, or_false, or_true, true_or, false_or, and_false, false_and, Bool.true_or, Bool.false_or, Bool.or_true, Bool.or_false, Bool.true_and, Bool.and_true, Bool.false_and, Bool.and_false, bne_iff_ne, ne_eq, implies_true, List.append_nil, Int.cast_ofNat_Int, Int.reduceEq, Int.reduceLT, Int.reduceLE, Int.reduceAdd, Int.reduceSub, Int.reduceMul, Int.reduceNeg, Int.reduceToNat, decide_true, decide_false, Int.reduceMod, Int.reduceDiv, Nat.reduceMul, List.flatten_nil, List.flatten_cons])
local macro_rules | `(tactic| walk_at "t_x") => `(tactic| ((try (simp only [start_def]; simp only [List.map_cons, List.map_nil, List.length_cons, List.length_nil, Nat.reduceAdd, Nat.reduceSub, List.replicate, List.cons_append, List.nil_append])); try (walk_at "t_x1"; try walk_at "t_x1")))
local macro_rules | `(tactic| walk_at "t_xs") => `(tactic| ((try (simp only [start_def]; simp only [List.map_cons, List.map_nil, List.length_cons, List.length_nil, Nat.reduceAdd, Nat.reduceSub, List.replicate, List.cons_append, List.nil_append])); try (walk_at "t_xs1"; try walk_at "t_xs1")))
variable {K : Fg}
theorem hw__law_mixed : ∀ ds ω Φ, W__law_mixed ds ω Φ → (b__law_mixed : BS K).w (startD 3 ds) ω ⟨fun _ ω => Φ .non ω, Φ, fun _ _ => False, fun _ _ => False, fun _ _ _ => False⟩ := by
  rintro ds ω Φ ⟨c, k, rfl, h⟩
  unfold b__law_mixed
  walk_at "t_xs"
  exact h
theorem hw__law_cell_at : ∀ ds ω Φ, W__law_cell_at ds ω Φ → (b__law_cell_at : BS K).w (startD 2 ds) ω ⟨fun _ ω => Φ .non ω, Φ, fun _ _ => False, fun _ _ => False, fun _ _ _ => False⟩ := by
  rintro ds ω Φ ⟨ns, k, rfl, h0, h⟩
  unfold b__law_cell_at
  walk_at "t_xs"
  refine iteI (fun c => ?_) (fun c => ?_)
  · rw [atI_nn h0]
    have e : ns[k.toNat]? = some (cellAt ns k) := by
      unfold cellAt
      rw [List.getD_eq_getElem?_getD, List.getElem?_eq_getElem (by omega)]; rfl
    rw [e]; exact h
  · have e : cellAt ns k = 0 := by
      unfold cellAt
      rw [List.getD_eq_getElem?_getD, List.getElem?_eq_none (by omega)]; rfl
    rw [e] at h
    exact h
theorem S_07780f_ok : S_07780f.all okc = true := by decide +kernel
theorem rep_k (n : Nat) : (List.replicate n [107]).flatten = List.replicate n 107 := by
  induction n with
  | zero => rfl
  | succ n ih => rw [List.replicate_succ, List.flatten_cons, ih]; rfl
theorem hw__law_word : ∀ ds ω Φ, W__law_word ds ω Φ → (b__law_word : BS K).w (startD 6 ds) ω ⟨fun _ ω => Φ .non ω, Φ, fun _ _ => False, fun _ _ => False, fun _ _ _ => False⟩ := by
  rintro ds ω Φ ⟨v, l, m, rfl, h0, h1, h2, h⟩
  unfold b__law_word
  have sl := S_07780f_len
  walk_at "t_xs"
  have e1 : 0 ≤ v % (m - l + 1) := Int.emod_nonneg _ (by omega)
  have e2 : v % (m - l + 1) < m - l + 1 := Int.emod_lt_of_pos _ (by omega)
  generalize hn : l + v % (m - l + 1) = n
  refine iteI (fun c => h [] rfl (by simp; omega) (by simp; omega)) (fun c => ?_)
  have a1 : 0 ≤ v / 64 % max n 1 := Int.emod_nonneg _ (by omega)
  have a2 : v / 64 % max n 1 < max n 1 := Int.emod_lt_of_pos _ (by omega)
  generalize hk : v / 64 % max n 1 = k at a1 a2
  have b1 : 0 ≤ v / 2048 % ((S_07780f.length : Nat) : Int) := Int.emod_nonneg _ (by omega)
  have b2 : v / 2048 % ((S_07780f.length : Nat) : Int) < ((S_07780f.length : Nat) : Int) := Int.emod_lt_of_pos _ (by omega)
  generalize hj : v / 2048 % ((S_07780f.length : Nat) : Int) = j at b1 b2
  have hj2 : j.toNat < S_07780f.length := by omega
  have hj3 : atI S_07780f j = some S_07780f[j.toNat] := by rw [atI_nn b1, List.getElem?_eq_getElem hj2]
  have ok : okc S_07780f[j.toNat] = true := List.all_eq_true.mp S_07780f_ok _ (List.getElem_mem hj2)
  generalize S_07780f[j.toNat] = x at ok hj3
  rw [hj3]
  walk_at "t_xs"
  rw [rep_k, rep_k]
  have l1 : (List.replicate k.toNat 107).length ≤ 200 := by simp; omega
  have l2 : (List.replicate (n - 1 - k).toNat 107).length ≤ 200 := by simp; omega
  walk_at "t_xs"
  refine h _ ?_ ?_ ?_
  · rw [List.all_append, List.all_append]
    rw [all_rep _ _ (by decide), all_rep _ _ (by decide)]
    simp only [List.all_cons, List.all_nil, ok]; rfl
  · simp; omega
  · simp; omega
theorem x_cell {ω : Om} {Φ : D → Om → Prop} {ns : List Int} {k : Int} (hk : 0 ≤ k) : W__law_cell_at [.scr ns, .int k] ω Φ = Φ (.int (cellAt ns k)) ω := propext ⟨fun ⟨a, b, e, _, z⟩ => by injection e with e1 e2; injection e1 with e1; injection e2 with e2; injection e2 with e2; subst e1; subst e2; exact z, fun h => ⟨ns, k, rfl, hk, h⟩⟩
theorem x_mixed {ω : Om} {Φ : D → Om → Prop} {c k : Int} : W__law_mixed [.int c, .int k] ω Φ = Φ (.int (mixed c k)) ω := propext ⟨fun ⟨a, b, e, z⟩ => by injection e with e1 e2; injection e1 with e1; injection e2 with e2; injection e2 with e2; subst e1; subst e2; exact z, fun h => ⟨c, k, rfl, h⟩⟩
theorem c_word {ω : Om} {Φ : D → Om → Prop} {c l m : Int} (h0 : 0 ≤ l) (h1 : l ≤ m) (h2 : m ≤ 100) (h : ∀ s : List Nat, s.all okc = true → l ≤ s.length → s.length ≤ m → Φ (.str s) ω) : W__law_word [.int c, .int l, .int m] ω Φ := ⟨c, l, m, rfl, h0, h1, h2, h⟩
end G

namespace G
open PySem L2 T
/-- the class of a way -/
def wayC : Nat → Str
  | 0 => "BadKey" | 1 => "BadValue" | 2 => "BadDeed" | 3 => "BadStamp" | 4 => "BadSieve" | 5 => "BadRow" | 6 => "BadRun"
  | 7 => "BadJournal" | 8 => "BadTiers" | 9 => "NoFile" | 10 => "Stopped" | 11 => "NoSnapshot" | _ => "BadFile"
/-- what a way raises -/
def wayX (m : Int) (nm : List Nat) : Nat → Exn
  | 6 => ⟨"BadRun", some ("line", .int m)⟩
  | 7 => ⟨"BadJournal", some ("place", .int m)⟩
  | 8 => ⟨"BadTiers", some ("line", .int m)⟩
  | 9 => ⟨"NoFile", some ("name", .str nm)⟩
  | 10 => ⟨"Stopped", some ("step", .int m)⟩
  | 11 => ⟨"NoSnapshot", some ("stamp", .int m)⟩
  | 12 => ⟨"BadFile", some ("name", .str nm)⟩
  | w => ⟨wayC w, none⟩
/-- what is due of it -/
def dueD (m : Int) (nm : List Nat) : Nat → D
  | 6 => .int m
  | 7 => .int m
  | 8 => .int m
  | 9 => .str nm
  | 10 => .int m
  | 11 => .int m
  | 12 => .str nm
  | _ => .str [110, 111, 110, 101]
def isW (w : Nat) : List D := (List.range 13).map fun (k : Nat) => .bl (decide ((k : Int) = (w : Int)))
def W__law_raised : WPX := fun ds ω Φ Ψ => ∃ (w : Nat) (m : Int) (nm : List Nat), ds = [.int w, .int m, .str nm] ∧ w ≤ 12 ∧ Ψ (wayX m nm w) ω
def W__law_kinds : WP := fun ds ω Φ => ∃ (w : Nat) (a : Addr) (dd : Option Addr) (f : Str) (d : D) (n : Bool), ds = [.exn a dd (wayC w) f d n] ∧ w ≤ 12 ∧ Φ (.lst (isW w)) ω
def W__law_field : WP := fun ds ω Φ => ∃ (w : Nat) (m : Int) (nm : List Nat), ds = [.int w, .int m, .str nm] ∧ w ≤ 12 ∧ Φ (dueD m nm w) ω
def W__law_taken : WP := fun ds ω Φ => ∃ (w : Nat) (m : Int) (nm : List Nat), ds = [.int w, .int m, .str nm] ∧ w ≤ 12 ∧ Φ (.bl true) ω
abbrev W_law : WP := WLaw 63
end G

namespace G
open PySem L2 T
def top (i : Nat) : Stmt := PySem.Challenge.pw_tierstore_k16_refusals.main.body.getD i (.Pass ⟨0, 0, 0, 0⟩)
abbrev s__law_cell_at : Stmt := top 16
abbrev n__law_cell_at : List Str := ["_law_script", "_law_k"]
theorem sc__law_cell_at : FnScope n__law_cell_at ["_law_script", "_law_k"] (defScope s__law_cell_at) := ⟨rfl, rfl, rfl, by decide +kernel, rfl, by decide +kernel, by decide +kernel⟩
abbrev s__law_raised : Stmt := top 17
abbrev n__law_raised : List Str := ["_law_way", "_law_number", "_law_name"]
theorem sc__law_raised : FnScope n__law_raised ["_law_way", "_law_number", "_law_name"] (defScope s__law_raised) := ⟨rfl, rfl, rfl, by decide +kernel, rfl, by decide +kernel, by decide +kernel⟩
abbrev s__law_kinds : Stmt := top 18
abbrev n__law_kinds : List Str := ["_law_e", "_law_some"]
theorem sc__law_kinds : FnScope n__law_kinds ["_law_e"] (defScope s__law_kinds) := ⟨rfl, rfl, rfl, by decide +kernel, rfl, by decide +kernel, by decide +kernel⟩
abbrev s__law_field : Stmt := top 19
abbrev n__law_field : List Str := ["_law_way", "_law_number", "_law_name", "_law_e"]
theorem sc__law_field : FnScope n__law_field ["_law_way", "_law_number", "_law_name"] (defScope s__law_field) := ⟨rfl, rfl, rfl, by decide +kernel, rfl, by decide +kernel, by decide +kernel⟩
abbrev s__law_taken : Stmt := top 20
abbrev n__law_taken : List Str := ["_law_way", "_law_number", "_law_name", "_law_e", "_law_k"]
theorem sc__law_taken : FnScope n__law_taken ["_law_way", "_law_number", "_law_name"] (defScope s__law_taken) := ⟨rfl, rfl, rfl, by decide +kernel, rfl, by decide +kernel, by decide +kernel⟩
abbrev s_law : Stmt := top 21
abbrev n_law : List Str := ["_law_script", "_law_number", "_law_name", "_law_way", "_law_due"]
theorem sc_law : FnScope n_law ["_law_script"] (defScope s_law) := ⟨rfl, rfl, rfl, by decide +kernel, rfl, by decide +kernel, by decide +kernel⟩
abbrev s_BadRun___init__ : Stmt := inClass (top 7) 0
theorem sc_BadRun___init__ : FnScope ["self", "line"] ["self", "line"] (defScope s_BadRun___init__) := ⟨rfl, rfl, rfl, by decide +kernel, rfl, by decide +kernel, by decide +kernel⟩
abbrev s_BadJournal___init__ : Stmt := inClass (top 8) 0
theorem sc_BadJournal___init__ : FnScope ["self", "place"] ["self", "place"] (defScope s_BadJournal___init__) := ⟨rfl, rfl, rfl, by decide +kernel, rfl, by decide +kernel, by decide +kernel⟩
abbrev s_BadTiers___init__ : Stmt := inClass (top 9) 0
theorem sc_BadTiers___init__ : FnScope ["self", "line"] ["self", "line"] (defScope s_BadTiers___init__) := ⟨rfl, rfl, rfl, by decide +kernel, rfl, by decide +kernel, by decide +kernel⟩
abbrev s_NoFile___init__ : Stmt := inClass (top 10) 0
theorem sc_NoFile___init__ : FnScope ["self", "name"] ["self", "name"] (defScope s_NoFile___init__) := ⟨rfl, rfl, rfl, by decide +kernel, rfl, by decide +kernel, by decide +kernel⟩
abbrev s_Stopped___init__ : Stmt := inClass (top 11) 0
theorem sc_Stopped___init__ : FnScope ["self", "step"] ["self", "step"] (defScope s_Stopped___init__) := ⟨rfl, rfl, rfl, by decide +kernel, rfl, by decide +kernel, by decide +kernel⟩
abbrev s_NoSnapshot___init__ : Stmt := inClass (top 12) 0
theorem sc_NoSnapshot___init__ : FnScope ["self", "stamp"] ["self", "stamp"] (defScope s_NoSnapshot___init__) := ⟨rfl, rfl, rfl, by decide +kernel, rfl, by decide +kernel, by decide +kernel⟩
abbrev s_BadFile___init__ : Stmt := inClass (top 13) 0
theorem sc_BadFile___init__ : FnScope ["self", "name"] ["self", "name"] (defScope s_BadFile___init__) := ⟨rfl, rfl, rfl, by decide +kernel, rfl, by decide +kernel, by decide +kernel⟩
def ecls : ECls := [("TierError", none), ("BadKey", none), ("BadValue", none), ("BadDeed", none), ("BadStamp", none), ("BadSieve", none), ("BadRun", some "line"), ("BadJournal", some "place"), ("BadTiers", some "line"), ("NoFile", some "name"), ("Stopped", some "step"), ("NoSnapshot", some "stamp"), ("BadFile", some "name"), ("BadRow", none)]

def tf : List He.Defn := [("_law_cell_at", none), ("_law_raised", none), ("_law_kinds", none), ("_law_field", none), ("_law_taken", none), ("law", none), ("BadRun", some "__init__"), ("BadJournal", some "__init__"), ("BadTiers", some "__init__"), ("NoFile", some "__init__"), ("Stopped", some "__init__"), ("NoSnapshot", some "__init__"), ("BadFile", some "__init__")]
structure Txt (K : Fg) (mg : Str → Option Value) : Prop where
  m_ValueError : mg "ValueError" = none
  m_isinstance : mg "isinstance" = none
  m_len : mg "len" = none
  m_range : mg "range" = none
  m_str : mg "str" = none
  g__law_cell_at : mg "_law_cell_at" = some (.ref (He.ga K "_law_cell_at"))
  F__law_cell_at : FnD K "_law_cell_at" "_law_cell_at" s__law_cell_at [] ("_law_cell_at", none)
  k__law_cell_at : PySem.W.keepIn K (.ref (He.ga K "_law_cell_at")) = true
  g__law_raised : mg "_law_raised" = some (.ref (He.ga K "_law_raised"))
  F__law_raised : FnD K "_law_raised" "_law_raised" s__law_raised [] ("_law_raised", none)
  k__law_raised : PySem.W.keepIn K (.ref (He.ga K "_law_raised")) = true
  g__law_kinds : mg "_law_kinds" = some (.ref (He.ga K "_law_kinds"))
  F__law_kinds : FnD K "_law_kinds" "_law_kinds" s__law_kinds [] ("_law_kinds", none)
  k__law_kinds : PySem.W.keepIn K (.ref (He.ga K "_law_kinds")) = true
  g__law_field : mg "_law_field" = some (.ref (He.ga K "_law_field"))
  F__law_field : FnD K "_law_field" "_law_field" s__law_field [] ("_law_field", none)
  k__law_field : PySem.W.keepIn K (.ref (He.ga K "_law_field")) = true
  g__law_taken : mg "_law_taken" = some (.ref (He.ga K "_law_taken"))
  F__law_taken : FnD K "_law_taken" "_law_taken" s__law_taken [] ("_law_taken", none)
  k__law_taken : PySem.W.keepIn K (.ref (He.ga K "_law_taken")) = true
  g_law : mg "law" = some (.ref (He.ga K "law"))
  F_law : FnD K "law" "law" s_law [] ("law", none)
  k_law : PySem.W.keepIn K (.ref (He.ga K "law")) = true
  g_TierError : mg "TierError" = some (.ref (He.ga K "TierError"))
  g_BadKey : mg "BadKey" = some (.ref (He.ga K "BadKey"))
  g_BadValue : mg "BadValue" = some (.ref (He.ga K "BadValue"))
  g_BadDeed : mg "BadDeed" = some (.ref (He.ga K "BadDeed"))
  g_BadStamp : mg "BadStamp" = some (.ref (He.ga K "BadStamp"))
  g_BadSieve : mg "BadSieve" = some (.ref (He.ga K "BadSieve"))
  g_BadRun : mg "BadRun" = some (.ref (He.ga K "BadRun"))
  g_BadJournal : mg "BadJournal" = some (.ref (He.ga K "BadJournal"))
  g_BadTiers : mg "BadTiers" = some (.ref (He.ga K "BadTiers"))
  g_NoFile : mg "NoFile" = some (.ref (He.ga K "NoFile"))
  g_Stopped : mg "Stopped" = some (.ref (He.ga K "Stopped"))
  g_NoSnapshot : mg "NoSnapshot" = some (.ref (He.ga K "NoSnapshot"))
  g_BadFile : mg "BadFile" = some (.ref (He.ga K "BadFile"))
  g_BadRow : mg "BadRow" = some (.ref (He.ga K "BadRow"))
  F_BadRun___init__ : FnD K "__init__" "BadRun.__init__" s_BadRun___init__ [] ("BadRun", some "__init__")
  F_BadJournal___init__ : FnD K "__init__" "BadJournal.__init__" s_BadJournal___init__ [] ("BadJournal", some "__init__")
  F_BadTiers___init__ : FnD K "__init__" "BadTiers.__init__" s_BadTiers___init__ [] ("BadTiers", some "__init__")
  F_NoFile___init__ : FnD K "__init__" "NoFile.__init__" s_NoFile___init__ [] ("NoFile", some "__init__")
  F_Stopped___init__ : FnD K "__init__" "Stopped.__init__" s_Stopped___init__ [] ("Stopped", some "__init__")
  F_NoSnapshot___init__ : FnD K "__init__" "NoSnapshot.__init__" s_NoSnapshot___init__ [] ("NoSnapshot", some "__init__")
  F_BadFile___init__ : FnD K "__init__" "BadFile.__init__" s_BadFile___init__ [] ("BadFile", some "__init__")
section
variable {P : Program} {w : World} {K : Fg} {mg : Str → Option Value} {base : Heap}
theorem oi_BadRun (T : Txt K mg) (XF : XFs K ecls) : OkI P w K mg base "BadRun" "line" :=
  init_ok XF (by decide +kernel) T.F_BadRun___init__ sc_BadRun___init__ (fun cdv A outer s H E => pss_cons (ps_expr (pe_tinit T.g_TierError XF.top.1 XF.top.2.1 XF.top.2.2 (pa_cons (pe_var rfl (Or.inl rfl)) (pa_cons pe_str pa_nil)))) (pss_one (ps_ost (pe_var rfl (Or.inl rfl)) (pe_var rfl (Or.inl rfl))))) (fun _ _ _ _ _ _ us hl => match us, hl with | [_, _], _ => rfl)
theorem oi_BadJournal (T : Txt K mg) (XF : XFs K ecls) : OkI P w K mg base "BadJournal" "place" :=
  init_ok XF (by decide +kernel) T.F_BadJournal___init__ sc_BadJournal___init__ (fun cdv A outer s H E => pss_cons (ps_expr (pe_tinit T.g_TierError XF.top.1 XF.top.2.1 XF.top.2.2 (pa_cons (pe_var rfl (Or.inl rfl)) (pa_cons pe_str pa_nil)))) (pss_one (ps_ost (pe_var rfl (Or.inl rfl)) (pe_var rfl (Or.inl rfl))))) (fun _ _ _ _ _ _ us hl => match us, hl with | [_, _], _ => rfl)
theorem oi_BadTiers (T : Txt K mg) (XF : XFs K ecls) : OkI P w K mg base "BadTiers" "line" :=
  init_ok XF (by decide +kernel) T.F_BadTiers___init__ sc_BadTiers___init__ (fun cdv A outer s H E => pss_cons (ps_expr (pe_tinit T.g_TierError XF.top.1 XF.top.2.1 XF.top.2.2 (pa_cons (pe_var rfl (Or.inl rfl)) (pa_cons pe_str pa_nil)))) (pss_one (ps_ost (pe_var rfl (Or.inl rfl)) (pe_var rfl (Or.inl rfl))))) (fun _ _ _ _ _ _ us hl => match us, hl with | [_, _], _ => rfl)
theorem oi_NoFile (T : Txt K mg) (XF : XFs K ecls) : OkI P w K mg base "NoFile" "name" :=
  init_ok XF (by decide +kernel) T.F_NoFile___init__ sc_NoFile___init__ (fun cdv A outer s H E => pss_cons (ps_expr (pe_tinit T.g_TierError XF.top.1 XF.top.2.1 XF.top.2.2 (pa_cons (pe_var rfl (Or.inl rfl)) (pa_cons pe_str pa_nil)))) (pss_one (ps_ost (pe_var rfl (Or.inl rfl)) (pe_var rfl (Or.inl rfl))))) (fun _ _ _ _ _ _ us hl => match us, hl with | [_, _], _ => rfl)
theorem oi_Stopped (T : Txt K mg) (XF : XFs K ecls) : OkI P w K mg base "Stopped" "step" :=
  init_ok XF (by decide +kernel) T.F_Stopped___init__ sc_Stopped___init__ (fun cdv A outer s H E => pss_cons (ps_expr (pe_tinit T.g_TierError XF.top.1 XF.top.2.1 XF.top.2.2 (pa_cons (pe_var rfl (Or.inl rfl)) (pa_cons pe_str pa_nil)))) (pss_one (ps_ost (pe_var rfl (Or.inl rfl)) (pe_var rfl (Or.inl rfl))))) (fun _ _ _ _ _ _ us hl => match us, hl with | [_, _], _ => rfl)
theorem oi_NoSnapshot (T : Txt K mg) (XF : XFs K ecls) : OkI P w K mg base "NoSnapshot" "stamp" :=
  init_ok XF (by decide +kernel) T.F_NoSnapshot___init__ sc_NoSnapshot___init__ (fun cdv A outer s H E => pss_cons (ps_expr (pe_tinit T.g_TierError XF.top.1 XF.top.2.1 XF.top.2.2 (pa_cons (pe_var rfl (Or.inl rfl)) (pa_cons pe_str pa_nil)))) (pss_one (ps_ost (pe_var rfl (Or.inl rfl)) (pe_var rfl (Or.inl rfl))))) (fun _ _ _ _ _ _ us hl => match us, hl with | [_, _], _ => rfl)
theorem oi_BadFile (T : Txt K mg) (XF : XFs K ecls) : OkI P w K mg base "BadFile" "name" :=
  init_ok XF (by decide +kernel) T.F_BadFile___init__ sc_BadFile___init__ (fun cdv A outer s H E => pss_cons (ps_expr (pe_tinit T.g_TierError XF.top.1 XF.top.2.1 XF.top.2.2 (pa_cons (pe_var rfl (Or.inl rfl)) (pa_cons pe_str pa_nil)))) (pss_one (ps_ost (pe_var rfl (Or.inl rfl)) (pe_var rfl (Or.inl rfl))))) (fun _ _ _ _ _ _ us hl => match us, hl with | [_, _], _ => rfl)
end
def b__law_raised {K : Fg} : BS K :=
  bsSeq (bsIf (btC (bOp (oEq) (bVar 0) (bInt 0))) (bsRaise "BadKey") (bsNext)) (bsSeq (bsIf (btC (bOp (oEq) (bVar 0) (bInt 1))) (bsRaise "BadValue") (bsNext)) (bsSeq (bsIf (btC (bOp (oEq) (bVar 0) (bInt 2))) (bsRaise "BadDeed") (bsNext)) (bsSeq (bsIf (btC (bOp (oEq) (bVar 0) (bInt 3))) (bsRaise "BadStamp") (bsNext)) (bsSeq (bsIf (btC (bOp (oEq) (bVar 0) (bInt 4))) (bsRaise "BadSieve") (bsNext)) (bsSeq (bsIf (btC (bOp (oEq) (bVar 0) (bInt 5))) (bsRaise "BadRow") (bsNext)) (bsSeq (bsIf (btC (bOp (oEq) (bVar 0) (bInt 6))) (bsRaiseF "BadRun" "line" (bVar 1)) (bsNext)) (bsSeq (bsIf (btC (bOp (oEq) (bVar 0) (bInt 7))) (bsRaiseF "BadJournal" "place" (bVar 1)) (bsNext)) (bsSeq (bsIf (btC (bOp (oEq) (bVar 0) (bInt 8))) (bsRaiseF "BadTiers" "line" (bVar 1)) (bsNext)) (bsSeq (bsIf (btC (bOp (oEq) (bVar 0) (bInt 9))) (bsRaiseF "NoFile" "name" (bVar 2)) (bsNext)) (bsSeq (bsIf (btC (bOp (oEq) (bVar 0) (bInt 10))) (bsRaiseF "Stopped" "step" (bVar 1)) (bsNext)) (bsSeq (bsIf (btC (bOp (oEq) (bVar 0) (bInt 11))) (bsRaiseF "NoSnapshot" "stamp" (bVar 1)) (bsNext)) (bsRaiseF "BadFile" "name" (bVar 2)))))))))))))
def b__law_kinds {K : Fg} : BS K :=
  bsSeq (bsAsg (bLst false (baC (bIsX ecls (.one "BadKey") rfl (bVar 0)) (baC (bIsX ecls (.one "BadValue") rfl (bVar 0)) (baC (bIsX ecls (.one "BadDeed") rfl (bVar 0)) (baC (bIsX ecls (.one "BadStamp") rfl (bVar 0)) (baN)))))) (bgN 1)) (bsSeq (bsAsg (bOp (oAdd) (bVar 1) (bLst false (baC (bIsX ecls (.one "BadSieve") rfl (bVar 0)) (baC (bIsX ecls (.one "BadRow") rfl (bVar 0)) (baC (bIsX ecls (.one "BadRun") rfl (bVar 0)) (baC (bIsX ecls (.one "BadJournal") rfl (bVar 0)) (baN))))))) (bgN 1)) (bsSeq (bsAsg (bOp (oAdd) (bVar 1) (bLst false (baC (bIsX ecls (.one "BadTiers") rfl (bVar 0)) (baC (bIsX ecls (.one "NoFile") rfl (bVar 0)) (baC (bIsX ecls (.one "Stopped") rfl (bVar 0)) (baC (bIsX ecls (.one "NoSnapshot") rfl (bVar 0)) (baN))))))) (bgN 1)) (bsRet (bOp (oAdd) (bVar 1) (bLst false (baC (bIsX ecls (.one "BadFile") rfl (bVar 0)) (baN)))))))
def b__law_field {K : Fg} : BS K :=
  bsSeq (bsTry ecls true (bsDrop (bCallX W__law_raised (baC (bVar 0) (baC (bVar 1) (baC (bVar 2) (baN)))))) (("BadRun", some 3, bsRet (bXf ecls "line" (bVar 3))) :: (("BadJournal", some 3, bsRet (bXf ecls "place" (bVar 3))) :: (("BadTiers", some 3, bsRet (bXf ecls "line" (bVar 3))) :: (("NoFile", some 3, bsRet (bXf ecls "name" (bVar 3))) :: (("Stopped", some 3, bsRet (bXf ecls "step" (bVar 3))) :: (("NoSnapshot", some 3, bsRet (bXf ecls "stamp" (bVar 3))) :: (("BadFile", some 3, bsRet (bXf ecls "name" (bVar 3))) :: (("TierError", none, bsRet (bLit "none" [110, 111, 110, 101] (by decide +kernel))) :: ([])))))))))) (bsRet (bLit "nothing" [110, 111, 116, 104, 105, 110, 103] (by decide +kernel)))
def b__law_taken {K : Fg} : BS K :=
  bsSeq (bsTryA ecls "TierError" 3 (bsDrop (bCallX W__law_raised (baC (bVar 0) (baC (bVar 1) (baC (bVar 2) (baN)))))) (fun a0 => bsRet (bAndT (bIsX ecls .ve rfl (bVar 3)) (bOp (oEq) (bCall0 W__law_kinds (baC (bVar 3) (baN))) (bLc false (biRngE a0 3 (baC (bInt 13) (baN))) (bgN 4) (btYes) (bOp (oEq) (bVar 4) (bVar 0)) [4] mon_n (only_n (by decide))))))) (bsRet (bBl false))
def b_law {K : Fg} : BS K :=
  bsSeq (bsAsg (bOp (oSub) (bOp (oMod) (bCall0 W__law_cell_at (baC (bVar 0) (baC (bInt 0) (baN)))) (bOp (oMul) (bInt 2) (bOp (oPow) (bInt 10) (bInt 60)))) (bOp (oPow) (bInt 10) (bInt 60))) (bgN 1)) (bsSeq (bsAsg (bOp (oAdd) (bLit "run" [114, 117, 110] (by decide +kernel)) (bCB (cStr) (baC (bOp (oMod) (bCall0 W__law_cell_at (baC (bVar 0) (baC (bInt 1) (baN)))) (bOp (oPow) (bInt 10) (bInt 7))) (baN)))) (bgN 2)) (bsSeq (bsFor (biRng1 (baC (bInt 13) (baN))) (bgN 3) (bsSeq (bsIf (btNot (btTru (bCall0 W__law_taken (baC (bVar 3) (baC (bVar 1) (baC (bVar 2) (baN))))))) (bsRet (bBl false)) (bsNext)) (bsSeq (bsAsg (bOp (oAdd) (bOp (oMulLst false) (bLst false (baC (bLit "none" [110, 111, 110, 101] (by decide +kernel)) (baN))) (bInt 6)) (bLst false (baC (bVar 1) (baC (bVar 1) (baC (bVar 1) (baC (bVar 2) (baC (bVar 1) (baC (bVar 1) (baC (bVar 2) (baN)))))))))) (bgN 4)) (bsIf (btC (bOp (oNe) (bCall0 W__law_field (baC (bVar 3) (baC (bVar 1) (baC (bVar 2) (baN))))) (bOp oIx (bVar 4) (bVar 3)))) (bsRet (bBl false)) (bsNext))))) (bsRet (bBl true))))
section
variable {P : Program} {w : World} {K : Fg} {mg : Str → Option Value} {base : Heap}
abbrev Ok__law_cell_at (P : Program) (w : World) (K : Fg) (mg : Str → Option Value) (base : Heap) : Prop := OkP P w K mg base 1 ("_law_cell_at", none) ["_law_script", "_law_k"] W__law_cell_at
theorem dv__law_cell_at (T : Txt K mg)   (hw : ∀ ds ω Φ, W__law_cell_at ds ω Φ → (b__law_cell_at : BS K).w (startD 2 ds) ω ⟨fun _ ω => Φ .non ω, Φ, fun _ _ => False, fun _ _ => False, fun _ _ _ => False⟩) : Ok__law_cell_at P w K mg base :=
  fnPD (K := K) (W := W__law_cell_at) (k := 0) (n := 2) (N := n__law_cell_at) (st := s__law_cell_at) T.F__law_cell_at sc__law_cell_at rfl b__law_cell_at (fun _ _ _ _ _ _ us hl => match us, hl with | [_, _], _ => rfl) len__law_cell_at (fun f cdv A outer s H E hr => S_cons (S_if (T_cmp (op_oLt) (P_var 1) (P_B (call_cLen) T.m_len (by decide +kernel) (A_c (P_var 0) (A_n)))) (S_one (S_ret (P_ix (P_var 0) (P_var 1)))) (S_nil)) (S_one (S_ret (P_int)))) hw
abbrev Ok__law_raised (P : Program) (w : World) (K : Fg) (mg : Str → Option Value) (base : Heap) : Prop := OkPX true P w K mg base 3 ("_law_raised", none) ["_law_way", "_law_number", "_law_name"] W__law_raised
theorem len__law_raised : ∀ ds ω Φ Ψ, W__law_raised ds ω Φ Ψ → ds.length = 3 := by
  intro ds ω Φ Ψ h
  first | (obtain ⟨rfl, _⟩ := h; rfl) | (obtain ⟨_, rfl, _⟩ := h; rfl) | (obtain ⟨_, _, rfl, _⟩ := h; rfl) | (obtain ⟨_, _, _, rfl, _⟩ := h; rfl) | (obtain ⟨_, _, _, _, rfl, _⟩ := h; rfl) | (obtain ⟨_, _, _, _, _, rfl, _⟩ := h; rfl) | (obtain ⟨_, _, _, _, _, _, rfl, _⟩ := h; rfl) | (obtain ⟨_, _, _, _, _, _, _, rfl, _⟩ := h; rfl) | (obtain ⟨_, _, _, _, _, _, _, _, rfl, _⟩ := h; rfl) | (obtain ⟨_, _, _, _, _, _, _, _, _, rfl, _⟩ := h; rfl) | exact T.len_of h
theorem dv__law_raised (T : Txt K mg) (XF : XFs K ecls)  (hw : ∀ ds ω Φ Ψ, W__law_raised ds ω Φ Ψ → (b__law_raised : BS K).w (startD 3 ds) ω ⟨fun _ ω => Φ .non ω, Φ, fun _ _ => False, fun _ _ => False, fun x _ ω => Ψ x ω⟩) : Ok__law_raised P w K mg base :=
  fnPX true (K := K) (W := W__law_raised) (k := 2) (l := 3) (N := n__law_raised) (st := s__law_raised) T.F__law_raised sc__law_raised rfl b__law_raised (fun _ _ _ _ _ _ us hl => match us, hl with | [_, _, _], _ => rfl) len__law_raised (fun f cdv A outer s H E hr tk po => S_cons (S_if (T_cmp (op_oEq (hq_of hr)) (P_var 0) (P_int)) (S_one (S_raise (n := true) XF tk T.g_BadKey (hl := by decide +kernel))) (S_nil)) (S_cons (S_if (T_cmp (op_oEq (hq_of hr)) (P_var 0) (P_int)) (S_one (S_raise (n := true) XF tk T.g_BadValue (hl := by decide +kernel))) (S_nil)) (S_cons (S_if (T_cmp (op_oEq (hq_of hr)) (P_var 0) (P_int)) (S_one (S_raise (n := true) XF tk T.g_BadDeed (hl := by decide +kernel))) (S_nil)) (S_cons (S_if (T_cmp (op_oEq (hq_of hr)) (P_var 0) (P_int)) (S_one (S_raise (n := true) XF tk T.g_BadStamp (hl := by decide +kernel))) (S_nil)) (S_cons (S_if (T_cmp (op_oEq (hq_of hr)) (P_var 0) (P_int)) (S_one (S_raise (n := true) XF tk T.g_BadSieve (hl := by decide +kernel))) (S_nil)) (S_cons (S_if (T_cmp (op_oEq (hq_of hr)) (P_var 0) (P_int)) (S_one (S_raise (n := true) XF tk T.g_BadRow (hl := by decide +kernel))) (S_nil)) (S_cons (S_if (T_cmp (op_oEq (hq_of hr)) (P_var 0) (P_int)) (S_one (S_raiseF (n := true) XF (oi_BadRun T XF) (hr.mono (by decide)) tk T.g_BadRun (P_var 1) (hl := by decide +kernel))) (S_nil)) (S_cons (S_if (T_cmp (op_oEq (hq_of hr)) (P_var 0) (P_int)) (S_one (S_raiseF (n := true) XF (oi_BadJournal T XF) (hr.mono (by decide)) tk T.g_BadJournal (P_var 1) (hl := by decide +kernel))) (S_nil)) (S_cons (S_if (T_cmp (op_oEq (hq_of hr)) (P_var 0) (P_int)) (S_one (S_raiseF (n := true) XF (oi_BadTiers T XF) (hr.mono (by decide)) tk T.g_BadTiers (P_var 1) (hl := by decide +kernel))) (S_nil)) (S_cons (S_if (T_cmp (op_oEq (hq_of hr)) (P_var 0) (P_int)) (S_one (S_raiseF (n := true) XF (oi_NoFile T XF) (hr.mono (by decide)) tk T.g_NoFile (P_var 2) (hl := by decide +kernel))) (S_nil)) (S_cons (S_if (T_cmp (op_oEq (hq_of hr)) (P_var 0) (P_int)) (S_one (S_raiseF (n := true) XF (oi_Stopped T XF) (hr.mono (by decide)) tk T.g_Stopped (P_var 1) (hl := by decide +kernel))) (S_nil)) (S_cons (S_if (T_cmp (op_oEq (hq_of hr)) (P_var 0) (P_int)) (S_one (S_raiseF (n := true) XF (oi_NoSnapshot T XF) (hr.mono (by decide)) tk T.g_NoSnapshot (P_var 1) (hl := by decide +kernel))) (S_nil)) (S_one (S_raiseF (n := true) XF (oi_BadFile T XF) (hr.mono (by decide)) tk T.g_BadFile (P_var 2) (hl := by decide +kernel))))))))))))))) hw
abbrev Ok__law_kinds (P : Program) (w : World) (K : Fg) (mg : Str → Option Value) (base : Heap) : Prop := OkQ P w K mg base 1 ("_law_kinds", none) ["_law_e"] W__law_kinds
theorem len__law_kinds : ∀ ds ω Φ, W__law_kinds ds ω Φ → ds.length = 1 := by
  intro ds ω Φ h
  first | (obtain ⟨rfl, _⟩ := h; rfl) | (obtain ⟨_, rfl, _⟩ := h; rfl) | (obtain ⟨_, _, rfl, _⟩ := h; rfl) | (obtain ⟨_, _, _, rfl, _⟩ := h; rfl) | (obtain ⟨_, _, _, _, rfl, _⟩ := h; rfl) | (obtain ⟨_, _, _, _, _, rfl, _⟩ := h; rfl) | (obtain ⟨_, _, _, _, _, _, rfl, _⟩ := h; rfl) | (obtain ⟨_, _, _, _, _, _, _, rfl, _⟩ := h; rfl) | (obtain ⟨_, _, _, _, _, _, _, _, rfl, _⟩ := h; rfl) | (obtain ⟨_, _, _, _, _, _, _, _, _, rfl, _⟩ := h; rfl) | exact T.len_of h
theorem dv__law_kinds (T : Txt K mg) (XF : XFs K ecls)   (hw : ∀ ds ω Φ, W__law_kinds ds ω Φ → (b__law_kinds : BS K).w (startD 2 ds) ω ⟨fun _ ω => Φ .non ω, Φ, fun _ _ => False, fun _ _ => False, fun _ _ _ => False⟩) : Ok__law_kinds P w K mg base :=
  fnQD (K := K) (W := W__law_kinds) (k := 0) (n := 2) (N := n__law_kinds) (st := s__law_kinds) T.F__law_kinds sc__law_kinds rfl b__law_kinds (fun _ _ _ _ _ _ us hl => match us, hl with | [_], _ => rfl) len__law_kinds (fun f cdv A outer s H E hr => S_cons (S_set (i := 1) sc__law_kinds.nd (P_lst (A_c (P_isX1 XF (by decide +kernel) T.m_isinstance T.g_BadKey (P_var 0)) (A_c (P_isX1 XF (by decide +kernel) T.m_isinstance T.g_BadValue (P_var 0)) (A_c (P_isX1 XF (by decide +kernel) T.m_isinstance T.g_BadDeed (P_var 0)) (A_c (P_isX1 XF (by decide +kernel) T.m_isinstance T.g_BadStamp (P_var 0)) (A_n))))))) (S_cons (S_set (i := 1) sc__law_kinds.nd (P_op op_oAdd (P_var 1) (P_lst (A_c (P_isX1 XF (by decide +kernel) T.m_isinstance T.g_BadSieve (P_var 0)) (A_c (P_isX1 XF (by decide +kernel) T.m_isinstance T.g_BadRow (P_var 0)) (A_c (P_isX1 XF (by decide +kernel) T.m_isinstance T.g_BadRun (P_var 0)) (A_c (P_isX1 XF (by decide +kernel) T.m_isinstance T.g_BadJournal (P_var 0)) (A_n)))))))) (S_cons (S_set (i := 1) sc__law_kinds.nd (P_op op_oAdd (P_var 1) (P_lst (A_c (P_isX1 XF (by decide +kernel) T.m_isinstance T.g_BadTiers (P_var 0)) (A_c (P_isX1 XF (by decide +kernel) T.m_isinstance T.g_NoFile (P_var 0)) (A_c (P_isX1 XF (by decide +kernel) T.m_isinstance T.g_Stopped (P_var 0)) (A_c (P_isX1 XF (by decide +kernel) T.m_isinstance T.g_NoSnapshot (P_var 0)) (A_n)))))))) (S_one (S_ret (P_op op_oAdd (P_var 1) (P_lst (A_c (P_isX1 XF (by decide +kernel) T.m_isinstance T.g_BadFile (P_var 0)) (A_n))))))))) hw
abbrev Ok__law_field (P : Program) (w : World) (K : Fg) (mg : Str → Option Value) (base : Heap) : Prop := OkP P w K mg base 4 ("_law_field", none) ["_law_way", "_law_number", "_law_name"] W__law_field
theorem len__law_field : ∀ ds ω Φ, W__law_field ds ω Φ → ds.length = 3 := by
  intro ds ω Φ h
  first | (obtain ⟨rfl, _⟩ := h; rfl) | (obtain ⟨_, rfl, _⟩ := h; rfl) | (obtain ⟨_, _, rfl, _⟩ := h; rfl) | (obtain ⟨_, _, _, rfl, _⟩ := h; rfl) | (obtain ⟨_, _, _, _, rfl, _⟩ := h; rfl) | (obtain ⟨_, _, _, _, _, rfl, _⟩ := h; rfl) | (obtain ⟨_, _, _, _, _, _, rfl, _⟩ := h; rfl) | (obtain ⟨_, _, _, _, _, _, _, rfl, _⟩ := h; rfl) | (obtain ⟨_, _, _, _, _, _, _, _, rfl, _⟩ := h; rfl) | (obtain ⟨_, _, _, _, _, _, _, _, _, rfl, _⟩ := h; rfl) | exact T.len_of h
theorem dv__law_field (T : Txt K mg) (XF : XFs K ecls)  (ok__law_raised : Ok__law_raised P w K mg base) (hw : ∀ ds ω Φ, W__law_field ds ω Φ → (b__law_field : BS K).w (startD 4 ds) ω ⟨fun _ ω => Φ .non ω, Φ, fun _ _ => False, fun _ _ => False, fun _ _ _ => False⟩) : Ok__law_field P w K mg base :=
  fnPD (K := K) (W := W__law_field) (k := 3) (n := 4) (N := n__law_field) (st := s__law_field) T.F__law_field sc__law_field rfl b__law_field (fun _ _ _ _ _ _ us hl => match us, hl with | [_, _, _], _ => rfl) len__law_field (fun f cdv A outer s H E hr => S_cons (S_try (n := true) XF sc__law_field.nd takesK0 (.as (by decide +kernel) T.g_BadRun rfl (by decide) rfl rfl (fun _ _ => S_one (S_ret (P_xf XF (P_var 3)))) (.as (by decide +kernel) T.g_BadJournal rfl (by decide) rfl rfl (fun _ _ => S_one (S_ret (P_xf XF (P_var 3)))) (.as (by decide +kernel) T.g_BadTiers rfl (by decide) rfl rfl (fun _ _ => S_one (S_ret (P_xf XF (P_var 3)))) (.as (by decide +kernel) T.g_NoFile rfl (by decide) rfl rfl (fun _ _ => S_one (S_ret (P_xf XF (P_var 3)))) (.as (by decide +kernel) T.g_Stopped rfl (by decide) rfl rfl (fun _ _ => S_one (S_ret (P_xf XF (P_var 3)))) (.as (by decide +kernel) T.g_NoSnapshot rfl (by decide) rfl rfl (fun _ _ => S_one (S_ret (P_xf XF (P_var 3)))) (.as (by decide +kernel) T.g_BadFile rfl (by decide) rfl rfl (fun _ _ => S_one (S_ret (P_xf XF (P_var 3)))) (.bare (by decide +kernel) T.g_TierError rfl (by decide) (fun _ _ => S_one (S_ret (P_lit))) (.nil))))))))) (fun _ _ _ tk po => S_one (S_expr (P_callX (n := true) ok__law_raised (hr.mono (by decide)) tk T.g__law_raised T.k__law_raised (A_c (P_var 0) (A_c (P_var 1) (A_c (P_var 2) (A_n)))))))) (S_one (S_ret (P_lit)))) hw
abbrev Ok__law_taken (P : Program) (w : World) (K : Fg) (mg : Str → Option Value) (base : Heap) : Prop := OkP P w K mg base 4 ("_law_taken", none) ["_law_way", "_law_number", "_law_name"] W__law_taken
theorem len__law_taken : ∀ ds ω Φ, W__law_taken ds ω Φ → ds.length = 3 := by
  intro ds ω Φ h
  first | (obtain ⟨rfl, _⟩ := h; rfl) | (obtain ⟨_, rfl, _⟩ := h; rfl) | (obtain ⟨_, _, rfl, _⟩ := h; rfl) | (obtain ⟨_, _, _, rfl, _⟩ := h; rfl) | (obtain ⟨_, _, _, _, rfl, _⟩ := h; rfl) | (obtain ⟨_, _, _, _, _, rfl, _⟩ := h; rfl) | (obtain ⟨_, _, _, _, _, _, rfl, _⟩ := h; rfl) | (obtain ⟨_, _, _, _, _, _, _, rfl, _⟩ := h; rfl) | (obtain ⟨_, _, _, _, _, _, _, _, rfl, _⟩ := h; rfl) | (obtain ⟨_, _, _, _, _, _, _, _, _, rfl, _⟩ := h; rfl) | exact T.len_of h
theorem dv__law_taken (T : Txt K mg) (XF : XFs K ecls)  (ok__law_kinds : Ok__law_kinds P w K mg base) (ok__law_raised : Ok__law_raised P w K mg base) (hw : ∀ ds ω Φ, W__law_taken ds ω Φ → (b__law_taken : BS K).w (startD 5 ds) ω ⟨fun _ ω => Φ .non ω, Φ, fun _ _ => False, fun _ _ => False, fun _ _ _ => False⟩) : Ok__law_taken P w K mg base :=
  fnPD (K := K) (W := W__law_taken) (k := 3) (n := 5) (N := n__law_taken) (st := s__law_taken) T.F__law_taken sc__law_taken rfl b__law_taken (fun _ _ _ _ _ _ us hl => match us, hl with | [_, _, _], _ => rfl) len__law_taken (fun f cdv A outer s H E hr => S_cons (S_tryA (i := 3) XF sc__law_taken.nd takesK0 (by decide +kernel) T.g_TierError rfl (by decide) rfl rfl (fun a0 _ => S_one (S_ret (P_and (P_isXv XF T.m_isinstance T.m_ValueError (P_var 3)) (P_one (P_cmp (op_oEq (hq_sui hr)) (P_callQ ok__law_kinds (L2H.roomH_mark (hr.mono (by decide)) _) T.g__law_kinds T.k__law_kinds (A_c (P_var 3) (A_n))) (P_lcE (a0 := a0) (own := [("_law_k", 4)]) rfl sc__law_taken.nd (I_rE T.m_range (A_c (P_int) (A_n))) (blkOk_by (N := n__law_taken) (sc := defScope s__law_taken) (by decide +kernel)) (fun _ _ _ _ _ => G_n 4 sc__law_taken.nd) (fun _ _ _ _ _ => P_cmp (op_oEq (hq_sui hr)) (P_var 4) (P_var 0)))))))) (fun _ _ _ tk po => S_one (S_expr (P_callX (n := true) ok__law_raised (hr.mono (by decide)) tk T.g__law_raised T.k__law_raised (A_c (P_var 0) (A_c (P_var 1) (A_c (P_var 2) (A_n)))))))) (S_one (S_ret (P_bl)))) hw
abbrev Ok_law (P : Program) (w : World) (K : Fg) (mg : Str → Option Value) (base : Heap) : Prop := OkP P w K mg base 5 ("law", none) ["_law_script"] W_law
theorem len_law : ∀ ds ω Φ, W_law ds ω Φ → ds.length = 1 := by
  intro ds ω Φ h
  first | (obtain ⟨rfl, _⟩ := h; rfl) | (obtain ⟨_, rfl, _⟩ := h; rfl) | (obtain ⟨_, _, rfl, _⟩ := h; rfl) | (obtain ⟨_, _, _, rfl, _⟩ := h; rfl) | (obtain ⟨_, _, _, _, rfl, _⟩ := h; rfl) | (obtain ⟨_, _, _, _, _, rfl, _⟩ := h; rfl) | (obtain ⟨_, _, _, _, _, _, rfl, _⟩ := h; rfl) | (obtain ⟨_, _, _, _, _, _, _, rfl, _⟩ := h; rfl) | (obtain ⟨_, _, _, _, _, _, _, _, rfl, _⟩ := h; rfl) | (obtain ⟨_, _, _, _, _, _, _, _, _, rfl, _⟩ := h; rfl) | exact T.len_of h
theorem dv_law (T : Txt K mg)  (ok__law_cell_at : Ok__law_cell_at P w K mg base) (ok__law_field : Ok__law_field P w K mg base) (ok__law_taken : Ok__law_taken P w K mg base) (hw : ∀ ds ω Φ, W_law ds ω Φ → (b_law : BS K).w (startD 5 ds) ω ⟨fun _ ω => Φ .non ω, Φ, fun _ _ => False, fun _ _ => False, fun _ _ _ => False⟩) : Ok_law P w K mg base :=
  fnPD (K := K) (W := W_law) (k := 4) (n := 5) (N := n_law) (st := s_law) T.F_law sc_law rfl b_law (fun _ _ _ _ _ _ us hl => match us, hl with | [_], _ => rfl) len_law (fun f cdv A outer s H E hr => S_cons (S_set (i := 1) sc_law.nd (P_op op_oSub (P_op op_oMod (P_callE ok__law_cell_at (hr.mono (by decide)) T.g__law_cell_at T.k__law_cell_at (A_c (P_var 0) (A_c (P_int) (A_n)))) (P_op op_oMul (P_int) (P_op op_oPow (P_int) (P_int)))) (P_op op_oPow (P_int) (P_int)))) (S_cons (S_set (i := 2) sc_law.nd (P_op op_oAdd (P_lit) (P_Ty call_cStr T.m_str (by decide +kernel) (A_c (P_op op_oMod (P_callE ok__law_cell_at (hr.mono (by decide)) T.g__law_cell_at T.k__law_cell_at (A_c (P_var 0) (A_c (P_int) (A_n)))) (P_op op_oPow (P_int) (P_int))) (A_n))))) (S_cons (S_for PassesOwn.never (I_r1 T.m_range (A_c (P_int) (A_n))) (G_n 3 sc_law.nd) (S_cons (S_if (T_not (T_tru (P_callE ok__law_taken (hr.mono (by decide)) T.g__law_taken T.k__law_taken (A_c (P_var 3) (A_c (P_var 1) (A_c (P_var 2) (A_n))))))) (S_one (S_ret (P_bl))) (S_nil)) (S_cons (S_set (i := 4) sc_law.nd (P_op op_oAdd (P_op op_oMulLst (P_lst (A_c (P_lit) (A_n))) (P_int)) (P_lst (A_c (P_var 1) (A_c (P_var 1) (A_c (P_var 1) (A_c (P_var 2) (A_c (P_var 1) (A_c (P_var 1) (A_c (P_var 2) (A_n))))))))))) (S_one (S_if (T_cmp (op_oNe (hq_of hr)) (P_callE ok__law_field (hr.mono (by decide)) T.g__law_field T.k__law_field (A_c (P_var 3) (A_c (P_var 1) (A_c (P_var 2) (A_n))))) (P_ix (P_var 4) (P_var 3))) (S_one (S_ret (P_bl))) (S_nil)))))) (S_one (S_ret (P_bl)))))) hw
end
end G

namespace G
open PySem L2 T
local macro_rules | `(tactic| walk_at "t_side") => `(tactic| first | assumption | omega | decide | (simp only [List.length_append, List.length_cons, List.length_nil, List.length_map, List.length_flatten, List.length_replicate]; done) | (simp only [List.length_append, List.length_cons, List.length_nil, List.length_map, List.length_flatten, List.length_replicate]; omega))
local macro_rules | `(tactic| walk_at "t_x1") => `(tactic| simp (disch := (walk_at "t_side")) only [↓x_frz, ↓x_neE0, ↓x_neE1, ↓x_eqE0, ↓x_eqE1, ↓y_fld, ↓y_sfld, ↓y_meth, ↓x_make, ↓x_refW, ↓x_insW, ↓y_lk0, ↓y_lk1, ↓y_lkn, ↓y_pt0, ↓y_pt1, ↓y_ptn, ↓y_wX, ↓y_tab1, ↓y_tab2, ↓y_set0, ↓y_set1, ↓x_dget2, ↓x_dsetd, ↓x_dpop, ↓x_kvW, ↓x_dkOf1, ↓x_dkOf2, ↓x_dg1W, ↓x_keyS, ↓x_keyI, ↓x_bdget, ↓x_dgetW1, ↓x_dgetW2, ↓x_bdput, ↓x_dputK1, ↓x_dputK2, ↓x_lenK, ↓x_listK0, ↓x_sortS0, ↓y_dictC, ↓y_sortK1, ↓y_sortK0, ↓x_din, ↓x_dnewK, ↓x_raiseF, ↓x_cell, ↓x_raise, ↓x_callX, ↓x_tryI, ↓x_isE, ↓x_isXW, ↓x_fE, ↓x_xfW, ↓x_exD0, ↓x_exD1, ↓x_hds0, ↓x_hdsY, ↓x_hdsN, ↓x_slotN, ↓x_slotS, ↓x_delN, ↓x_delS, ↓y_endD, ↓x_optS, ↓x_cL, ↓x_cI, ↓x_cK, ↓x_sz, ↓x_rg1, ↓x_rg2, ↓x_varS, ↓x_var, ↓x_addS, ↓x_addT, ↓x_addL, ↓x_addOL, ↓x_mul, ↓x_mulS, ↓x_mulLF, ↓x_mulLT, ↓x_div, ↓x_mod, ↓x_pow4, ↓x_pow5, ↓x_pow6, ↓x_pow7, ↓x_pow9, ↓x_pow12, ↓x_pow60, ↓x_shr, ↓x_isT, ↓x_isF, ↓x_isNT, ↓x_isNF, ↓x_isN, ↓x_isNN, ↓x_non0, ↓x_non1, ↓x_non2, ↓x_non3, ↓x_non4, ↓x_non5, ↓x_non6, ↓x_ixS, ↓x_ixT, ↓x_ixC, ↓x_ixL, ↓x_ixR, ↓x_at0, ↓x_at1, ↓x_at2, ↓x_at3, ↓x_at4, ↓x_at5, ↓x_at6, ↓x_at7, ↓x_at8, ↓x_at9, ↓x_at10, ↓x_slS, ↓x_slL, ↓x_slLO, ↓x_slC, ↓x_slR, ↓x_slRO, ↓x_in, ↓x_nin, ↓x_truS, ↓x_lenS, ↓x_lenR, ↓x_isW0, ↓x_isW1, ↓x_isW2, ↓x_isW3, ↓x_isW4, ↓x_isW5, ↓x_isTii, ↓x_isTbi, ↓x_isTbb, ↓x_isTib, ↓x_isTss, ↓x_isTtt, ↓x_isTll, ↓x_isTnt, ↓x_isTst, ↓x_isTit, ↓x_isTlt, ↓x_isTbt, ↓x_isTni, ↓x_isTns, ↓x_isTis, ↓x_isTbs, ↓x_isTts, ↓x_isTls, ↓x_isTsi, ↓x_isTti, ↓x_isTli, ↓x_isTtl, ↓x_gT, ↓x_itR, ↓x_truR, ↓x_setS, ↓x_setN, ↓x_it, ↓x_con, ↓x_lit, ↓x_int, ↓x_op, ↓x_add, ↓x_sub, ↓x_neg, ↓x_lt, ↓x_le, ↓x_gt, ↓x_ge, ↓x_ltS, ↓x_leS, ↓x_gtS, ↓x_geS, ↓x_eqI, ↓x_eqS, ↓x_eqB, ↓x_neI, ↓x_neS, ↓x_neB, ↓x_eqN, ↓x_neN, ↓x_eqIN, ↓x_eqNI, ↓x_eqSN, ↓x_eqNS, ↓x_isB, ↓x_isNB, ↓x_sl, ↓x_oN, ↓x_oS, ↓x_slT, ↓x_baN, ↓x_baC, ↓x_tup, ↓x_lst, ↓x_lstO, ↓x_tru, ↓x_truB, ↓x_truN, ↓x_truI, ↓x_truT, ↓x_truL, ↓x_tC, ↓x_tB, ↓x_tand, ↓x_tor, ↓x_tnot, ↓x_yes, ↓x_and, ↓x_or, ↓x_not, ↓x_if, ↓x_chain, ↓x_bl, ↓x_cb, ↓x_lenT, ↓x_lenL, ↓x_lenC, ↓x_max, ↓x_min, ↓x_isi, ↓x_frz, ↓x_next, ↓x_break, ↓x_cont, ↓x_asg, ↓x_gsN, ↓x_gsC, ↓x_drop, ↓x_ret, ↓x_retN, ↓x_sif, ↓x_for, ↓x_seqI, ↓x_itL, ↓x_itT, ↓x_itC, ↓x_itS, ↓x_r1, ↓x_r2, ↓x_dk, ↓x_dt, ↓x_lc, ↓x_lcO, ↓x_need, ↓x_seqL, ↓x_seqT, ↓x_seqC, ↓x_seqR, ↓x_lstL, ↓x_lstR, ↓x_ints, ↓x_ints0, ↓x_ints1, ↓x_strs, ↓x_strs0, ↓x_strs1, ↓x_bls, ↓x_bls0, ↓x_bls1, ↓x_omap, ↓x_cl, ↓x_clO, ↓x_ctu, ↓x_strI, ↓x_strS, ↓x_intI, ↓x_intB, ↓x_intS, ↓x_ord, ↓x_sum, ↓x_maxL, ↓x_minL, ↓x_any, ↓x_all2, ↓x_bM, ↓x_bM0, ↓x_tyS, ↓x_tyL, ↓x_tyR, ↓x_tyC0, ↓x_tyC1, ↓x_tyC2, ↓x_needE, ↓x_app, ↓x_ext, ↓x_pop, ↓x_popAt, ↓x_rev, ↓x_clr, ↓x_ins, ↓x_split, ↓x_part, ↓x_join, ↓x_zf, ↓x_sidx, ↓x_eqE0, ↓x_eqE1, ↓x_set0, ↓x_set1, ↓x_gNs, ↓x_augs, ↓x_vr0, ↓x_vr1, ↓x_oa0, ↓x_oa1, ↓x_oa2, ↓x_oa3, ↓x_oa4, ↓x_oa5, ↓x_oa6, ↓x_oa7, ↓x_oa8, ↓x_oa9, ↓x_oa10, ↓x_cLS, ↓x_cLN, ↓x_ssL, ↓x_ssT, ↓x_ssC, ↓x_slsL, ↓x_oi, ↓x_oi0, ↓x_oi1, ↓x_os, ↓x_os0, ↓x_os1, ↓x_ob, ↓x_ob0, ↓x_ob1, ↓x_ntS, ↓x_ntL, ↓x_ntR, ↓x_ntN, ↓x_cutT1, ↓x_cutT2, ↓x_cutT0, ↓x_cutF1, ↓x_cutF2, ↓x_cutF3, ↓x_gT2, ↓x_gT3, ↓x_gT4, ↓x_gT5, ↓x_apd0, ↓x_apd1, ↓x_call0, ↓x_callD, ↓x_mulT, ↓x_fmt, ↓x_strW, ↓x_join2, ↓x_birev, ↓x_bienum, ↓x_lxL, ↓x_bizip, ↓x_lxZ, ↓x_birevS, ↓x_lxx0, ↓x_lxx1, ↓x_lxx2, ↓x_no, ↓x_band, ↓x_bor, ↓x_bxor, ↓x_shl, ↓x_cbk, ↓x_maxD, ↓x_sortI, ↓x_sortIo, ↓x_lenSetI, ↓x_ninR, ↓x_inR, ↓x_eqRL, ↓x_neRL, ↓x_gSub, ↓x_gsW, ↓x_sel, ↓x_sortKF, ↓x_sortKT, ↓x_one1, ↓x_itV, ↓x_kwL, ↓x_kwF, ↓x_kEnv, ↓x_vo0, ↓x_vo1, ↓x_revLF, ↓x_revLT, List.map_cons, List.map_nil, List.set_cons_zero, List.set_cons_succ, List.getElem?_cons_zero, List.getElem?_cons_succ, List.length_cons, List.length_nil, List.replicate, List.cons_append, List.nil_append, start_def, decide_eq_true_eq, Bool.not_eq_true, Bool.not_eq_true', Bool.and_eq_true, Bool.or_eq_true, decide_eq_false_iff_not, Bool.not_not, Bool.not_true, Bool.not_false, ↓reduceIte, wipeD, Bool.false_eq_true, reduceCtorEq, Nat.reduceSub, Nat.reduceAdd, and_true, true_and, List.isEmpty_cons, List.isEmpty_nil, not_true_eq_false, not_false_eq_true, or_false, or_true, true_or, false_or, and_false, false_and, Bool.true_or, Bool.false_or, Bool.or_true, Bool.or_false, Bool.true_and, Bool.and_true, Bool.false_and, Bool.and_false, bne_iff_ne, ne_eq, implies_true, List.append_nil, Int.cast_ofNat_Int, Int.reduceEq, Int.reduceLT, Int.reduceLE, Int.reduceAdd, Int.reduceSub, Int.reduceMul, Int.reduceNeg, Int.reduceToNat, decide_true, decide_false, Int.reduceMod, Int.reduceDiv, Nat.reduceMul, List.flatten_nil, List.flatten_cons])
local macro_rules | `(tactic| walk_at "t_xs1") => `(tactic| simp (disch := (walk_at "t_side")) only [↓x_seq, ↓x_frz, ↓x_neE0, ↓x_neE1, ↓x_eqE0, ↓x_eqE1, ↓y_fld, ↓y_sfld, ↓y_meth, ↓x_make, ↓x_refW, ↓x_insW, ↓y_lk0, ↓y_lk1, ↓y_lkn, ↓y_pt0, ↓y_pt1, ↓y_ptn, ↓y_wX, ↓y_tab1, ↓y_tab2, ↓y_set0, ↓y_set1, ↓x_dget2, ↓x_dsetd, ↓x_dpop, ↓x_kvW, ↓x_dkOf1, ↓x_dkOf2, ↓x_dg1W, ↓x_keyS, ↓x_keyI, ↓x_bdget, ↓x_dgetW1, ↓x_dgetW2, ↓x_bdput, ↓x_dputK1, ↓x_dputK2, ↓x_lenK, ↓x_listK0, ↓x_sortS0, ↓y_dictC, ↓y_sortK1, ↓y_sortK0, ↓x_din, ↓x_dnewK, ↓x_raiseF, ↓x_cell, ↓x_raise, ↓x_callX, ↓x_tryI, ↓x_isE, ↓x_isXW, ↓x_fE, ↓x_xfW, ↓x_exD0, ↓x_exD1, ↓x_hds0, ↓x_hdsY, ↓x_hdsN, ↓x_slotN, ↓x_slotS, ↓x_delN, ↓x_delS, ↓y_endD, ↓x_optS, ↓x_cL, ↓x_cI, ↓x_cK, ↓x_sz, ↓x_rg1, ↓x_rg2, ↓x_varS, ↓x_var, ↓x_addS, ↓x_addT, ↓x_addL, ↓x_addOL, ↓x_mul, ↓x_mulS, ↓x_mulLF, ↓x_mulLT, ↓x_div, ↓x_mod, ↓x_pow4, ↓x_pow5, ↓x_pow6, ↓x_pow7, ↓x_pow9, ↓x_pow12, ↓x_pow60, ↓x_shr, ↓x_isT, ↓x_isF, ↓x_isNT, ↓x_isNF, ↓x_isN, ↓x_isNN, ↓x_non0, ↓x_non1, ↓x_non2, ↓x_non3, ↓x_non4, ↓x_non5, ↓x_non6, ↓x_ixS, ↓x_ixT, ↓x_ixC, ↓x_ixL, ↓x_ixR, ↓x_at0, ↓x_at1, ↓x_at2, ↓x_at3, ↓x_at4, ↓x_at5, ↓x_at6, ↓x_at7, ↓x_at8, ↓x_at9, ↓x_at10, ↓x_slS, ↓x_slL, ↓x_slLO, ↓x_slC, ↓x_slR, ↓x_slRO, ↓x_in, ↓x_nin, ↓x_truS, ↓x_lenS, ↓x_lenR, ↓x_isW0, ↓x_isW1, ↓x_isW2, ↓x_isW3, ↓x_isW4, ↓x_isW5, ↓x_isTii, ↓x_isTbi, ↓x_isTbb, ↓x_isTib, ↓x_isTss, ↓x_isTtt, ↓x_isTll, ↓x_isTnt, ↓x_isTst, ↓x_isTit, ↓x_isTlt, ↓x_isTbt, ↓x_isTni, ↓x_isTns, ↓x_isTis, ↓x_isTbs, ↓x_isTts, ↓x_isTls, ↓x_isTsi, ↓x_isTti, ↓x_isTli, ↓x_isTtl, ↓x_gT, ↓x_itR, ↓x_truR, ↓x_setS, ↓x_setN, ↓x_it, ↓x_con, ↓x_lit, ↓x_int, ↓x_op, ↓x_add, ↓x_sub, ↓x_neg, ↓x_lt, ↓x_le, ↓x_gt, ↓x_ge, ↓x_ltS, ↓x_leS, ↓x_gtS, ↓x_geS, ↓x_eqI, ↓x_eqS, ↓x_eqB, ↓x_neI, ↓x_neS, ↓x_neB, ↓x_eqN, ↓x_neN, ↓x_eqIN, ↓x_eqNI, ↓x_eqSN, ↓x_eqNS, ↓x_isB, ↓x_isNB, ↓x_sl, ↓x_oN, ↓x_oS, ↓x_slT, ↓x_baN, ↓x_baC, ↓x_tup, ↓x_lst, ↓x_lstO, ↓x_tru, ↓x_truB, ↓x_truN, ↓x_truI, ↓x_truT, ↓x_truL, ↓x_tC, ↓x_tB, ↓x_tand, ↓x_tor, ↓x_tnot, ↓x_yes, ↓x_and, ↓x_or, ↓x_not, ↓x_if, ↓x_chain, ↓x_bl, ↓x_cb, ↓x_lenT, ↓x_lenL, ↓x_lenC, ↓x_max, ↓x_min, ↓x_isi, ↓x_frz, ↓x_next, ↓x_break, ↓x_cont, ↓x_asg, ↓x_gsN, ↓x_gsC, ↓x_drop, ↓x_ret, ↓x_retN, ↓x_sif, ↓x_for, ↓x_seqI, ↓x_itL, ↓x_itT, ↓x_itC, ↓x_itS, ↓x_r1, ↓x_r2, ↓x_dk, ↓x_dt, ↓x_lc, ↓x_lcO, ↓x_need, ↓x_seqL, ↓x_seqT, ↓x_seqC, ↓x_seqR, ↓x_lstL, ↓x_lstR, ↓x_ints, ↓x_ints0, ↓x_ints1, ↓x_strs, ↓x_strs0, ↓x_strs1, ↓x_bls, ↓x_bls0, ↓x_bls1, ↓x_omap, ↓x_cl, ↓x_clO, ↓x_ctu, ↓x_strI, ↓x_strS, ↓x_intI, ↓x_intB, ↓x_intS, ↓x_ord, ↓x_sum, ↓x_maxL, ↓x_minL, ↓x_any, ↓x_all2, ↓x_bM, ↓x_bM0, ↓x_tyS, ↓x_tyL, ↓x_tyR, ↓x_tyC0, ↓x_tyC1, ↓x_tyC2, ↓x_needE, ↓x_app, ↓x_ext, ↓x_pop, ↓x_popAt, ↓x_rev, ↓x_clr, ↓x_ins, ↓x_split, ↓x_part, ↓x_join, ↓x_zf, ↓x_sidx, ↓x_eqE0, ↓x_eqE1, ↓x_set0, ↓x_set1, ↓x_gNs, ↓x_augs, ↓x_vr0, ↓x_vr1, ↓x_oa0, ↓x_oa1, ↓x_oa2, ↓x_oa3, ↓x_oa4, ↓x_oa5, ↓x_oa6, ↓x_oa7, ↓x_oa8, ↓x_oa9, ↓x_oa10, ↓x_cLS, ↓x_cLN, ↓x_ssL, ↓x_ssT, ↓x_ssC, ↓x_slsL, ↓x_oi, ↓x_oi0, ↓x_oi1, ↓x_os, ↓x_os0, ↓x_os1, ↓x_ob, ↓x_ob0, ↓x_ob1, ↓x_ntS, ↓x_ntL, ↓x_ntR, ↓x_ntN, ↓x_cutT1, ↓x_cutT2, ↓x_cutT0, ↓x_cutF1, ↓x_cutF2, ↓x_cutF3, ↓x_gT2, ↓x_gT3, ↓x_gT4, ↓x_gT5, ↓x_apd0, ↓x_apd1, ↓x_call0, ↓x_callD, ↓x_mulT, ↓x_fmt, ↓x_strW, ↓x_join2, ↓x_birev, ↓x_bienum, ↓x_lxL, ↓x_bizip, ↓x_lxZ, ↓x_birevS, ↓x_lxx0, ↓x_lxx1, ↓x_lxx2, ↓x_no, ↓x_band, ↓x_bor, ↓x_bxor, ↓x_shl, ↓x_cbk, ↓x_maxD, ↓x_sortI, ↓x_sortIo, ↓x_lenSetI, ↓x_ninR, ↓x_inR, ↓x_eqRL, ↓x_neRL, ↓x_gSub, ↓x_gsW, ↓x_sel, ↓x_sortKF, ↓x_sortKT, ↓x_one1, ↓x_itV, ↓x_kwL, ↓x_kwF, ↓x_kEnv, ↓x_vo0, ↓x_vo1, ↓x_revLF, ↓x_revLT, List.map_cons, List.map_nil, List.set_cons_zero, List.set_cons_succ, List.getElem?_cons_zero, List.getElem?_cons_succ, List.length_cons, List.length_nil, List.replicate, List.cons_append, List.nil_append, start_def, decide_eq_true_eq, Bool.not_eq_true, Bool.not_eq_true', Bool.and_eq_true, Bool.or_eq_true, decide_eq_false_iff_not, Bool.not_not, Bool.not_true, Bool.not_false, ↓reduceIte, wipeD, Bool.false_eq_true, reduceCtorEq, Nat.reduceSub, Nat.reduceAdd, and_true, true_and, List.isEmpty_cons, List.isEmpty_nil, not_true_eq_false, not_false_eq_true, or_false, or_true, true_or, false_or, and_false, false_and, Bool.true_or, Bool.false_or, Bool.or_true, Bool.or_false, Bool.true_and, Bool.and_true, Bool.false_and, Bool.and_false, bne_iff_ne, ne_eq, implies_true, List.append_nil, Int.cast_ofNat_Int, Int.reduceEq, Int.reduceLT, Int.reduceLE, Int.reduceAdd, Int.reduceSub, Int.reduceMul, Int.reduceNeg, Int.reduceToNat, decide_true, decide_false, Int.reduceMod, Int.reduceDiv, Nat.reduceMul, List.flatten_nil, List.flatten_cons])
local macro_rules | `(tactic| walk_at "t_x") => `(tactic| ((try (simp only [start_def]; simp only [List.map_cons, List.map_nil, List.length_cons, List.length_nil, Nat.reduceAdd, Nat.reduceSub, List.replicate, List.cons_append, List.nil_append])); try (walk_at "t_x1"; try walk_at "t_x1")))
local macro_rules | `(tactic| walk_at "t_xs") => `(tactic| ((try (simp only [start_def]; simp only [List.map_cons, List.map_nil, List.length_cons, List.length_nil, Nat.reduceAdd, Nat.reduceSub, List.replicate, List.cons_append, List.nil_append])); try (walk_at "t_xs1"; try walk_at "t_xs1")))
local macro_rules | `(tactic| walk_at "t_f") => `(tactic| first | with_reducible refine insW_at (by assumption) ?_ | with_reducible refine cK_at (by assumption) ?_ | with_reducible refine cL_at (by assumption) ?_ | with_reducible refine kv_at (by assumption) ?_ | with_reducible refine tyL_at (by assumption) ?_ | with_reducible refine tyK_at (by assumption) ?_)
local macro_rules | `(tactic| walk_at "t_w") => `(tactic| (walk_at "t_x"; repeat (walk_at "t_f"; walk_at "t_x")))
local macro_rules | `(tactic| walk_at "t_ws") => `(tactic| (walk_at "t_xs"; repeat (walk_at "t_f"; walk_at "t_xs")))
variable {K : Fg} {ω : Om} {Φ : D → Om → Prop}
theorem twelve {w : Nat} (h : w ≤ 12) : w = 0 ∨ w = 1 ∨ w = 2 ∨ w = 3 ∨ w = 4 ∨ w = 5 ∨ w = 6 ∨ w = 7 ∨ w = 8 ∨ w = 9 ∨ w = 10 ∨ w = 11 ∨ w = 12 := by omega
theorem hw__law_raised : ∀ ds ω Φ Ψ, W__law_raised ds ω Φ Ψ → (b__law_raised : BS K).w (startD 3 ds) ω ⟨fun _ ω => Φ .non ω, Φ, fun _ _ => False, fun _ _ => False, fun x _ ω => Ψ x ω⟩ := by
  rintro ds ω Φ Ψ ⟨w, m, nm, rfl, hw, h⟩
  unfold b__law_raised
  rcases twelve hw with rfl | rfl | rfl | rfl | rfl | rfl | rfl | rfl | rfl | rfl | rfl | rfl | rfl <;> (walk_at "t_xs"; exact h)
theorem inL_way {w : Nat} (h : w ≤ 12) : inL ecls (wayC w) = true := by
  rcases twelve h with rfl | rfl | rfl | rfl | rfl | rfl | rfl | rfl | rfl | rfl | rfl | rfl | rfl <;> decide +kernel
theorem ans_way {w : Nat} (h : w ≤ 12) : ([.bl (ansQ (wayC w) (.one "BadKey")), .bl (ansQ (wayC w) (.one "BadValue")), .bl (ansQ (wayC w) (.one "BadDeed")), .bl (ansQ (wayC w) (.one "BadStamp")), .bl (ansQ (wayC w) (.one "BadSieve")), .bl (ansQ (wayC w) (.one "BadRow")), .bl (ansQ (wayC w) (.one "BadRun")), .bl (ansQ (wayC w) (.one "BadJournal")), .bl (ansQ (wayC w) (.one "BadTiers")), .bl (ansQ (wayC w) (.one "NoFile")), .bl (ansQ (wayC w) (.one "Stopped")), .bl (ansQ (wayC w) (.one "NoSnapshot")), .bl (ansQ (wayC w) (.one "BadFile"))] : List D) = isW w := by
  rcases twelve h with rfl | rfl | rfl | rfl | rfl | rfl | rfl | rfl | rfl | rfl | rfl | rfl | rfl <;> rfl
theorem hw__law_kinds : ∀ ds ω Φ, W__law_kinds ds ω Φ → (b__law_kinds : BS K).w (startD 2 ds) ω ⟨fun _ ω => Φ .non ω, Φ, fun _ _ => False, fun _ _ => False, fun _ _ _ => False⟩ := by
  rintro ds ω Φ ⟨w, a, dd, f, d, n, rfl, hw, h⟩
  have hl := inL_way hw
  unfold b__law_kinds
  rw [← ans_way hw] at h
  walk_at "t_xs"
  exact h
theorem fld_ok {w : Nat} (h : w ≤ 12) (m : Int) (nm : List Nat) : (wayX m nm w).c = wayC w := by
  rcases twelve h with rfl | rfl | rfl | rfl | rfl | rfl | rfl | rfl | rfl | rfl | rfl | rfl | rfl <;> rfl
theorem hw__law_field : ∀ ds ω Φ, W__law_field ds ω Φ → (b__law_field : BS K).w (startD 4 ds) ω ⟨fun _ ω => Φ .non ω, Φ, fun _ _ => False, fun _ _ => False, fun _ _ _ => False⟩ := by
  rintro ds ω Φ ⟨w, m, nm, rfl, hw, h⟩
  unfold b__law_field
  refine w_seq (w_try ?_)
  walk_at "t_x"
  refine ⟨w, m, nm, rfl, hw, ?_⟩
  refine ⟨by rw [fld_ok hw]; exact inL_way hw, ?_⟩
  rcases twelve hw with rfl | rfl | rfl | rfl | rfl | rfl | rfl | rfl | rfl | rfl | rfl | rfl | rfl
  all_goals (unfold wayX; try unfold wayC)
  all_goals walk_at "t_x"
  all_goals intro a dd
  all_goals walk_at "t_x"
  all_goals first | exact h | exact ⟨rfl, by decide +kernel, h⟩
theorem exD_way (a dd : Addr) {n : Bool} {w : Nat} (h : w ≤ 12) (m : Int) (nm : List Nat) : ∃ dd' f d, exD a dd n (wayX m nm w) = .exn a dd' (wayC w) f d n := by
  rcases twelve h with rfl | rfl | rfl | rfl | rfl | rfl | rfl | rfl | rfl | rfl | rfl | rfl | rfl <;> exact ⟨_, _, _, rfl⟩
theorem hw__law_taken : ∀ ds ω Φ, W__law_taken ds ω Φ → (b__law_taken : BS K).w (startD 5 ds) ω ⟨fun _ ω => Φ .non ω, Φ, fun _ _ => False, fun _ _ => False, fun _ _ _ => False⟩ := by
  rintro ds ω Φ ⟨w, m, nm, rfl, hw, h⟩
  unfold b__law_taken
  refine w_seq ?_
  rw [x_tryA]
  walk_at "t_x"
  refine ⟨w, m, nm, rfl, hw, ?_⟩
  refine ⟨by rw [fld_ok hw]; exact inL_way hw, ?_⟩
  have hs : subX (wayX m nm w).c "TierError" = true := by
    rw [fld_ok hw]
    rcases twelve hw with rfl | rfl | rfl | rfl | rfl | rfl | rfl | rfl | rfl | rfl | rfl | rfl | rfl <;> decide +kernel
  rw [if_pos hs]
  intro a0 dd0
  obtain ⟨dd, f, d, e⟩ := exD_way (n := true) a0 dd0 hw m nm
  rw [e]
  have hl := inL_way hw
  rw [x_isXW hl]
  rw [show ansQ (wayC w) QC.ve = true from rfl]
  walk_at "t_x"
  refine ⟨w, a0, dd, f, d, true, rfl, hw, ?_⟩
  show (biRngE a0 3 (baC (bInt 13) baN) : BI K).w _ _ _ _
  rw [x_rngE ⟨_, _, _, _, rfl⟩]
  walk_at "t_x"
  refine lc_map1 (fun d => match d with | .int k => .bl (decide (k = (w : Int))) | _ => .non) _ _ (by rw [sizeLine_eq, rngD_len]; simp) trivial (fun d hd Q hq => ?_) ?_
  · obtain ⟨i, hi⟩ := List.getElem?_of_mem hd
    obtain ⟨hi, rfl⟩ := rng0 hi
    walk_at "t_x"
    exact hq
  rw [List.nil_append]
  have e2 : (rngD 0 (13 : Int).toNat).map (fun d => match d with | .int k => .bl (decide (k = (w : Int))) | _ => D.non) = isW w := by
    unfold isW rngD
    rw [List.map_map]
    rfl
  first | rw [e2] | skip
  have o : dOk 4 (.lst (isW w)) := by
    rcases twelve hw with rfl | rfl | rfl | rfl | rfl | rfl | rfl | rfl | rfl | rfl | rfl | rfl | rfl <;> exact ⟨by decide +kernel, by decide +kernel⟩
  refine eq_same (by rfl) rfl rfl o (by omega) ?_
  walk_at "t_x"
  exact h
theorem hw_law : ∀ ds ω Φ, W_law ds ω Φ → (b_law : BS K).w (startD 5 ds) ω ⟨fun _ ω => Φ .non ω, Φ, fun _ _ => False, fun _ _ => False, fun _ _ _ => False⟩ := by
  rintro ds ω Φ ⟨ns, rfl, hn, hb, h⟩
  unfold b_law
  refine w_cut (fun ρ1 ω1 => ω1 = ω ∧ ∃ m : Int, ρ1 = [some (.scr ns), some (.int m), none, none, none]) (fun N hN => ?_) ?_
  · walk_at "t_x"
    exact hN _ _ ⟨rfl, _, rfl⟩
  rintro _ ω1 ⟨rfl, m, rfl⟩
  refine w_cut (fun ρ1 ω2 => ω2 = ω1 ∧ ∃ nm : List Nat, nm.length ≤ 100 ∧ ρ1 = [some (.scr ns), some (.int m), some (.str nm), none, none]) (fun N hN => ?_) ?_
  · walk_at "t_x"
    have l := strI_lt (i := cellAt ns 1 % 10000000) (by omega) (by omega)
    have l2 : ([114, 117, 110] ++ strI (cellAt ns 1 % 10000000)).length ≤ 100 := by
      rw [List.length_append]; show 3 + _ ≤ _; omega
    exact ⟨by rw [sizeLine_eq]; rw [List.length_append] at l2; omega, hN _ _ ⟨rfl, _, l2, rfl⟩⟩
  rintro _ ω2 ⟨rfl, nm, hnm, rfl⟩
  refine w_cut (fun ρ1 ω1 => True) (fun N hN => ?_) ?_
  · walk_at "t_x"
    refine for_go (fun i ρ1 ω1 => ω2 = ω1 ∧ ∃ (x y : Option D), ρ1 = [some (.scr ns), some (.int m), some (.str nm), x, y]) ?_ ?_ ⟨rfl, none, none, rfl⟩
    · rintro i d ρ1 ω1 M hd ⟨rfl, x, y, rfl⟩ hM
      obtain ⟨hi, rfl⟩ := rng0 hd
      refine ⟨trivial, ?_⟩
      refine w_gN ?_
      simp only [List.set_cons_succ, List.set_cons_zero]
      have hi : i ≤ 12 := by
        have : (13 : Int).toNat = 13 := rfl
        omega
      refine w_seq (w_sifB false (fun F hF => ?_) (iteF (w_next ?_)))
      · walk_at "t_x"
        refine ⟨i, m, nm, by simp, hi, ?_⟩
        walk_at "t_x"
        exact hF
      refine w_cut (fun ρ1 ω1 => ω2 = ω1 ∧ ρ1 = [some (.scr ns), some (.int m), some (.str nm), some (.int i), some (.lst ((List.range 13).map (dueD m nm)))]) (fun N hN => ?_) ?_
      · walk_at "t_x"
        exact hN _ _ ⟨rfl, by first | rfl | (simp; rfl) | simp⟩
      rintro _ _ ⟨rfl, rfl⟩
      refine w_sifB false (fun F hF => ?_) (iteF (w_next (hM _ _ ⟨rfl, _, _, rfl⟩)))
      walk_at "t_x"
      refine ⟨i, m, nm, by simp, hi, ?_⟩
      have ei : atI ((List.range 13).map (dueD m nm)) (i : Int) = some (dueD m nm i) := by
        rw [atI_nn (by omega), Int.toNat_natCast, List.getElem?_map, List.getElem?_range (by omega)]
        rfl
      walk_at "t_x"
      rw [ei]
      have same : ∀ b : D, (b = .int m ∨ b = .str nm ∨ b = .str [110, 111, 110, 101]) → (oNe : O2 K).w b b ω2 fun x ω1 => blW x fun b => F b ω1 := by
        rintro b (rfl | rfl | rfl) <;> (walk_at "t_x"; simpa using hF)
      refine same _ ?_
      rcases twelve hi with rfl | rfl | rfl | rfl | rfl | rfl | rfl | rfl | rfl | rfl | rfl | rfl | rfl <;> first | exact .inl rfl | exact .inr (.inl rfl) | exact .inr (.inr rfl)
    · rintro ρ1 ω1 ⟨rfl, x, y, rfl⟩
      exact ⟨trivial, hN _ _ trivial⟩
  rintro _ _ _
  walk_at "t_x"
  exact h _
end G

namespace G
open PySem L2 T
def dd__law_cell_at : He.DefD := ⟨("_law_cell_at", none), "_law_cell_at", "_law_cell_at", defArgs s__law_cell_at, defBody s__law_cell_at, defScope s__law_cell_at, [], []⟩
def dd__law_raised : He.DefD := ⟨("_law_raised", none), "_law_raised", "_law_raised", defArgs s__law_raised, defBody s__law_raised, defScope s__law_raised, [], []⟩
def dd__law_kinds : He.DefD := ⟨("_law_kinds", none), "_law_kinds", "_law_kinds", defArgs s__law_kinds, defBody s__law_kinds, defScope s__law_kinds, [], []⟩
def dd__law_field : He.DefD := ⟨("_law_field", none), "_law_field", "_law_field", defArgs s__law_field, defBody s__law_field, defScope s__law_field, [], []⟩
def dd__law_taken : He.DefD := ⟨("_law_taken", none), "_law_taken", "_law_taken", defArgs s__law_taken, defBody s__law_taken, defScope s__law_taken, [], []⟩
def dd_law : He.DefD := ⟨("law", none), "law", "law", defArgs s_law, defBody s_law, defScope s_law, [], []⟩
def dd_BadRun___init__ : He.DefD := ⟨("BadRun", some "__init__"), "__init__", "BadRun.__init__", defArgs s_BadRun___init__, defBody s_BadRun___init__, defScope s_BadRun___init__, [], []⟩
def dd_BadJournal___init__ : He.DefD := ⟨("BadJournal", some "__init__"), "__init__", "BadJournal.__init__", defArgs s_BadJournal___init__, defBody s_BadJournal___init__, defScope s_BadJournal___init__, [], []⟩
def dd_BadTiers___init__ : He.DefD := ⟨("BadTiers", some "__init__"), "__init__", "BadTiers.__init__", defArgs s_BadTiers___init__, defBody s_BadTiers___init__, defScope s_BadTiers___init__, [], []⟩
def dd_NoFile___init__ : He.DefD := ⟨("NoFile", some "__init__"), "__init__", "NoFile.__init__", defArgs s_NoFile___init__, defBody s_NoFile___init__, defScope s_NoFile___init__, [], []⟩
def dd_Stopped___init__ : He.DefD := ⟨("Stopped", some "__init__"), "__init__", "Stopped.__init__", defArgs s_Stopped___init__, defBody s_Stopped___init__, defScope s_Stopped___init__, [], []⟩
def dd_NoSnapshot___init__ : He.DefD := ⟨("NoSnapshot", some "__init__"), "__init__", "NoSnapshot.__init__", defArgs s_NoSnapshot___init__, defBody s_NoSnapshot___init__, defScope s_NoSnapshot___init__, [], []⟩
def dd_BadFile___init__ : He.DefD := ⟨("BadFile", some "__init__"), "__init__", "BadFile.__init__", defArgs s_BadFile___init__, defBody s_BadFile___init__, defScope s_BadFile___init__, [], []⟩
def fn : List He.DefD := [dd__law_cell_at, dd__law_raised, dd__law_kinds, dd__law_field, dd__law_taken, dd_law, dd_BadRun___init__, dd_BadJournal___init__, dd_BadTiers___init__, dd_NoFile___init__, dd_Stopped___init__, dd_NoSnapshot___init__, dd_BadFile___init__]
def fa : List He.Fa := [.free "ValueError", .free "isinstance", .free "len", .free "range", .free "str", .glo "_law_cell_at", .glo "_law_raised", .glo "_law_kinds", .glo "_law_field", .glo "_law_taken", .glo "law", .glo "TierError", .glo "BadKey", .glo "BadValue", .glo "BadDeed", .glo "BadStamp", .glo "BadSieve", .glo "BadRun", .glo "BadJournal", .glo "BadTiers", .glo "NoFile", .glo "Stopped", .glo "NoSnapshot", .glo "BadFile", .glo "BadRow"]
def names : List Str := (["TierError", "BadKey", "BadValue", "BadDeed", "BadStamp", "BadSieve", "BadRun", "BadJournal", "BadTiers", "NoFile", "Stopped", "NoSnapshot", "BadFile", "BadRow", "_law_cell_at", "_law_raised", "_law_kinds", "_law_field", "_law_taken"] : List Str)
abbrev R : PySem.W.OpenRow := PySem.W.OpenLaw.row PySem.Challenge.rw_tierstore_k16_refusals
def cs_ (K : Fg) : Bool := excB ecls K
abbrev hk : PySem.W.Hook := hookS 4 fa fn tf (exC tf cs_)
def ob (s : PySem.W.SharedT) : He.AlX := obsS 4 fa fn tf (exC tf cs_) (HandSHeadRun.getT s)
theorem ob_eq (s : PySem.W.SharedT) : ob s = hk.obs s.abs := obsS_eq (HandSHeadRun.getT_eq s)
theorem run (w : World) : HandSHeadRun.RunEq R (PySem.W.view R.prog [21]) hk ob 7920 names w := by
  intro os
  kernel_rfl
theorem txt_of {K : Fg} {h : Heap} {mg : Str → Option Value} (X : K.In h) (G : h.Ns mainGlobals mg) (c : He.SaysD fa fn K) (hcs : cs_ K = true) : Txt K mg where
  m_ValueError := He.free_ok X G (c.fact 0 (f := .free "ValueError") rfl)
  m_isinstance := He.free_ok X G (c.fact 1 (f := .free "isinstance") rfl)
  m_len := He.free_ok X G (c.fact 2 (f := .free "len") rfl)
  m_range := He.free_ok X G (c.fact 3 (f := .free "range") rfl)
  m_str := He.free_ok X G (c.fact 4 (f := .free "str") rfl)
  g__law_cell_at := He.glo_ok X G (c.fact 5 (f := .glo "_law_cell_at") rfl)
  g__law_raised := He.glo_ok X G (c.fact 6 (f := .glo "_law_raised") rfl)
  g__law_kinds := He.glo_ok X G (c.fact 7 (f := .glo "_law_kinds") rfl)
  g__law_field := He.glo_ok X G (c.fact 8 (f := .glo "_law_field") rfl)
  g__law_taken := He.glo_ok X G (c.fact 9 (f := .glo "_law_taken") rfl)
  g_law := He.glo_ok X G (c.fact 10 (f := .glo "law") rfl)
  g_TierError := He.glo_ok X G (c.fact 11 (f := .glo "TierError") rfl)
  g_BadKey := He.glo_ok X G (c.fact 12 (f := .glo "BadKey") rfl)
  g_BadValue := He.glo_ok X G (c.fact 13 (f := .glo "BadValue") rfl)
  g_BadDeed := He.glo_ok X G (c.fact 14 (f := .glo "BadDeed") rfl)
  g_BadStamp := He.glo_ok X G (c.fact 15 (f := .glo "BadStamp") rfl)
  g_BadSieve := He.glo_ok X G (c.fact 16 (f := .glo "BadSieve") rfl)
  g_BadRun := He.glo_ok X G (c.fact 17 (f := .glo "BadRun") rfl)
  g_BadJournal := He.glo_ok X G (c.fact 18 (f := .glo "BadJournal") rfl)
  g_BadTiers := He.glo_ok X G (c.fact 19 (f := .glo "BadTiers") rfl)
  g_NoFile := He.glo_ok X G (c.fact 20 (f := .glo "NoFile") rfl)
  g_Stopped := He.glo_ok X G (c.fact 21 (f := .glo "Stopped") rfl)
  g_NoSnapshot := He.glo_ok X G (c.fact 22 (f := .glo "NoSnapshot") rfl)
  g_BadFile := He.glo_ok X G (c.fact 23 (f := .glo "BadFile") rfl)
  g_BadRow := He.glo_ok X G (c.fact 24 (f := .glo "BadRow") rfl)
  F__law_cell_at := c.def_ 0 (d := dd__law_cell_at) rfl
  k__law_cell_at := by
    obtain ⟨fd, F⟩ := c.def_ 0 (d := dd__law_cell_at) rfl
    exact F.kp
  F__law_raised := c.def_ 1 (d := dd__law_raised) rfl
  k__law_raised := by
    obtain ⟨fd, F⟩ := c.def_ 1 (d := dd__law_raised) rfl
    exact F.kp
  F__law_kinds := c.def_ 2 (d := dd__law_kinds) rfl
  k__law_kinds := by
    obtain ⟨fd, F⟩ := c.def_ 2 (d := dd__law_kinds) rfl
    exact F.kp
  F__law_field := c.def_ 3 (d := dd__law_field) rfl
  k__law_field := by
    obtain ⟨fd, F⟩ := c.def_ 3 (d := dd__law_field) rfl
    exact F.kp
  F__law_taken := c.def_ 4 (d := dd__law_taken) rfl
  k__law_taken := by
    obtain ⟨fd, F⟩ := c.def_ 4 (d := dd__law_taken) rfl
    exact F.kp
  F_law := c.def_ 5 (d := dd_law) rfl
  k_law := by
    obtain ⟨fd, F⟩ := c.def_ 5 (d := dd_law) rfl
    exact F.kp
  F_BadRun___init__ := c.def_ 6 (d := dd_BadRun___init__) rfl
  F_BadJournal___init__ := c.def_ 7 (d := dd_BadJournal___init__) rfl
  F_BadTiers___init__ := c.def_ 8 (d := dd_BadTiers___init__) rfl
  F_NoFile___init__ := c.def_ 9 (d := dd_NoFile___init__) rfl
  F_Stopped___init__ := c.def_ 10 (d := dd_Stopped___init__) rfl
  F_NoSnapshot___init__ := c.def_ 11 (d := dd_NoSnapshot___init__) rfl
  F_BadFile___init__ := c.def_ 12 (d := dd_BadFile___init__) rfl
theorem all_ok {P : Program} {w : World} {K : Fg} {mg : Str → Option Value} {base : Heap} (T : Txt K mg) (TK : TabK K tf) (TB : TabsB base mg K tf) (XF : XFs K ecls) : Ok_law P w K mg base := by
  have ok__law_cell_at : Ok__law_cell_at P w K mg base := dv__law_cell_at T   hw__law_cell_at
  have ok__law_raised : Ok__law_raised P w K mg base := dv__law_raised T XF   hw__law_raised
  have ok__law_kinds : Ok__law_kinds P w K mg base := dv__law_kinds T XF   hw__law_kinds
  have ok__law_field : Ok__law_field P w K mg base := dv__law_field T XF  ok__law_raised hw__law_field
  have ok__law_taken : Ok__law_taken P w K mg base := dv__law_taken T XF  ok__law_kinds ok__law_raised hw__law_taken
  have ok_law : Ok_law P w K mg base := dv_law T  ok__law_cell_at ok__law_field ok__law_taken hw_law
  exact ok_law
end G
open PySem PySem.W PySem.Calls PyProof.Rows
theorem PySem.Challenge.cw_tierstore_k16_refusals_holds : PySem.Challenge.rw_tierstore_k16_refusals.Holds := by
  w_on; o_law
  refine HandSHeadRun.head_any (r := OpenLaw.row PySem.Challenge.rw_tierstore_k16_refusals) (q := view (OpenLaw.row PySem.Challenge.rw_tierstore_k16_refusals).prog [21]) (H := G.hk) (ob := G.ob) (M := 7920) (loose := G.names) (d := HandSHeadRun.topDef (OpenLaw.row PySem.Challenge.rw_tierstore_k16_refusals).prog 21) (kwd := []) G.ob_eq
    (by kernel_rfl) (fun s => by kernel_rfl) G.run (by kernel_rfl) (by kernel_rfl) (by kernel_rfl) (by rfl) (by first | assumption | decide +kernel) (by decide +kernel) ⟨rfl, rfl, rfl, rfl, rfl, by decide +kernel⟩ ?hw ?hc
  case hw => w_witness2
  case hc =>
    refine LamX.walk_ofTsE (l := PySem.Challenge.rw_tierstore_k16_refusals) (n := 63) (k := 5) (x := "_law_script") (CX := fun _ => L2.CX0) rfl (by decide) (by kernel_rfl) ⟨rfl, by decide, by decide⟩ ?F (fun _ _ _ _ _ z => z)
    intro w mg fa h Y Gn hmg0
    obtain ⟨K, KX, c⟩ := Y
    have hmg : mg ("law" : PySem.Str) = some (.ref fa) := by
      have e : (HandSHeadRun.topDef (OpenLaw.row PySem.Challenge.rw_tierstore_k16_refusals).prog 21).name = ("law" : PySem.Str) := by kernel_rfl
      rw [← e]
      exact hmg0
    obtain ⟨c2, hcs⟩ := _root_.T.says_exB c
    have T := G.txt_of KX Gn c.t.d hcs
    have TK := _root_.T.tabK_of c2
    exact ⟨K, KX, _root_.T.law_at KX TK (fun p hp => c.empty p hp) (name := "law") (st := G.s_law) hmg T.g_law T.F_law (fun _ _ _ _ _ _ us hl => match us, hl with | [_], _ => rfl) fun base h1 h2 TB => G.all_ok T TK TB (_root_.T.xfs_of hcs)⟩
