import PyProof.Rows.All
import Wide.All
import OpenK.AllK
import Wide.FinOn
import PySem.Challenge.RW_tierstore_k60_parts_tell
import HandS.ForMost
import HandS.Evl
import HandS.Steps
import HandS.IsInst
import HandS.Style
import HandS.StrMore
import HandS.FStr
import HandS.Flow
import HandS.Wide
import HandS.Nested
import HandS.HeadHook2
import HandS.HeadHook4
import HandS.WideBits
import HandS.Deep
import HandS.TupAny
import PyProof.StrOps2
import PyProof.EqKinds
import HandS.Defaults
import HandS.Head0
import HandS.Head1
import HandS.Head2
import HandS.HeadEnd
import HandS.HeadHook1
import HandS.EndTab
import HandS.HeadWalk
import HandS.TupMul
import HandS.RaiseMore
import HandS.Replace
import HandS.ReplaceList
import HandS.Strs
import HandS.SetFor
import HandS.More
import HandS.Codes
import PyProof.FactsAll.list_0
import PyProof.FactsAll.list_4
import PyProof.FactsAll.str_6
import PyProof.FactsAll.str_8
import HandS.Iter
import HandS.Rev
import HandS.Zip
import HandS.SortKw
import KE.DataMinMax
import KE.DataMinKey
import KE.SortKeyHeap
import HandS.TupSets
import HandS.Dict
import HandS.SetTxt0
import KE.SortData
import HandS.Exc
import HandS.ExcOwn
import HandS.ExcCtx
import HandS.ExcInit
import HandS.TryMany
import HandS.SuiteRaise
import HandS.WordsExc
import KE.KExcIs
import HandS.ReplaceLit
import HandS.CallSlots
import HandS.SetKeys
import HandS.ListItems
import HandS.WordsDict
import HandS.List
import HandS.HeadNt
import HandS.DictComp
import HandS.Remove
import HandS.HotCalls
import HandS.ExcInitHot
import HandS.SortInts
import HandS.TupLen
import KE.KDictWalk
set_option Elab.async false
set_option linter.all false
set_option maxRecDepth 100000
set_option maxHeartbeats 0
namespace T
open PySem L2
section
abbrev Fg := PySem.W.Frag
inductive D where
  | non | bl (b : Bool) | int (i : Int) | str (s : List Nat) | tup (ds : List D) | lst (ds : List D) | ref (a : Addr) | scr (ns : List Int)
  | exn (a : Addr) (dd : Option Addr) (c f : Str) (d : D) (n : Bool)
  /-- the inner function of the def tag, what it captured -/
  | clo (tag : Str) (d : D)
def Exd (H H' : Hp) : Prop := ∀ a o, H a = some o → H' a = some o
theorem Exd.refl (H : Hp) : Exd H H := fun _ _ h => h
theorem Exd.trans {H H1 H2 : Hp} (a : Exd H H1) (b : Exd H1 H2) : Exd H H2 := fun x o h => b x o (a x o h)
theorem Exd.sql {K : Fg} {H H' : Hp} {a : Addr} {xs : List V} (e : Exd H H') (h : SqL K H a xs) : SqL K H' a xs := Evl.ex_l e h
theorem Exd.sqt {K : Fg} {H H' : Hp} {a : Addr} {xs : List V} (e : Exd H H') (h : SqT K H a xs) : SqT K H' a xs := Evl.ex_t e h
theorem Exd.new {H : Hp} {p : Addr} {o : HO} (h : H p = none) : Exd H (upd H p o) := Evl.Ex.new h
def CellO (c : Addr) (v : V) : HO := .ext fun h => ∃ u, L2.RelV v u ∧ h.IsCell c (some u)
def firstDef : List Stmt → Option Stmt
  | [] => none
  | s :: r => match s with
    | .FunctionDef .. => some s
    | _ => firstDef r
def defNm : Stmt → Str
  | .FunctionDef name _ _ _ _ _ _ _ _ _ => name
  | _ => ""
def InnerOf (K : Fg) (tag : Str) (F : NdefX.NF) : Prop := ∃ oc od fd osl b st, K.lookup (He.ga K tag) = some ⟨oc, od, .func fd, osl⟩ ∧ fd.body = .stmts b ∧ firstDef b = some st ∧ F.name = defNm st ∧ F.qual = fd.qualname ++ ".<locals>." ++ defNm st ∧ F.params = C8.fnArgs st ∧ F.body = C8.fnBody st ∧ F.scope = C8.fnScope st
def ExT (K : Fg) (a : Addr) (c : Str) (dd : Option Addr) (n : Bool) : HO := .ext fun h => ∃ (oe : Obj) (vs : Array Value), h.get? a = some oe ∧ oe.cls = .ref (He.ga K c) ∧ oe.dict = dd ∧ oe.data = .fields vs ∧ (n = true → vs[2]? = some .none)
mutual
inductive Rep (K : Fg) (Hd : Hp) : V → D → Prop
  | non : Rep K Hd .non .non
  | bl (b : Bool) : Rep K Hd (.bl b) (.bl b)
  | int (i : Int) : Rep K Hd (.int i) (.int i)
  | str (s : List Nat) : Rep K Hd (.str ⟨s.toArray⟩) (.str s)
  | tup {a : Addr} {xs : List V} {ds : List D} : SqT K Hd a xs → RepL K Hd xs ds → Rep K Hd (.ref a) (.tup ds)
  | lst {a : Addr} {xs : List V} {ds : List D} : Hd a = some (.lst xs) → RepL K Hd xs ds → Rep K Hd (.ref a) (.lst ds)
  | scr {a : Addr} {ns : List Int} : SqL K Hd a (ns.map V.int) → Rep K Hd (.ref a) (.scr ns)
  | ref (a : Addr) : Rep K Hd (.ref a) (.ref a)
  | exn0 {a : Addr} {c f : Str} {d : D} {n : Bool} : Hd a = some (ExT K a c none n) → Rep K Hd (.ref a) (.exn a none c f d n)
  | exn1 {a dd : Addr} {c f : Str} {x : V} {d : D} {n : Bool} : Hd a = some (ExT K a c (some dd) n) → Hd dd = some (.xd [(f, x)]) → Rep K Hd x d → Rep K Hd (.ref a) (.exn a (some dd) c f d n)
  | clo {f cc : Addr} {tag x : Str} {F : NdefX.NF} {v : V} {d : D} : InnerOf K tag F → F.cl = [(x, cc)] → (x, NameKind.free) ∈ F.scope.names → Hd f = some (NdefX.FnO f F) → Hd F.c = some (LamX.CodeO F.c F.qual) → Hd cc = some (CellO cc v) → Rep K Hd v d → Rep K Hd (.ref f) (.clo tag d)
inductive RepL (K : Fg) (Hd : Hp) : List V → List D → Prop
  | nil : RepL K Hd [] []
  | cons {x : V} {xs : List V} {d : D} {ds : List D} : Rep K Hd x d → RepL K Hd xs ds → RepL K Hd (x :: xs) (d :: ds)
end
section
variable {K : Fg} {H H' : Hp}
mutual
theorem Rep.mono (e : Exd H H') : ∀ {v : V} {d : D}, Rep K H v d → Rep K H' v d
  | _, _, .non => .non
  | _, _, .bl b => .bl b
  | _, _, .int i => .int i
  | _, _, .str s => .str s
  | _, _, .tup h r => .tup (e.sqt h) (RepL.mono e r)
  | _, _, .lst h r => .lst (e _ _ h) (RepL.mono e r)
  | _, _, .scr h => .scr (e.sql h)
  | _, _, .ref a => .ref a
  | _, _, .exn0 h => .exn0 (e _ _ h)
  | _, _, .exn1 h h2 r => .exn1 (e _ _ h) (e _ _ h2) (Rep.mono e r)
  | _, _, .clo i l fr h1 h2 h3 r => .clo i l fr (e _ _ h1) (e _ _ h2) (e _ _ h3) (Rep.mono e r)
theorem RepL.mono (e : Exd H H') : ∀ {vs : List V} {ds : List D}, RepL K H vs ds → RepL K H' vs ds
  | _, _, .nil => .nil
  | _, _, .cons h r => .cons (Rep.mono e h) (RepL.mono e r)
end
theorem RepL.length : ∀ {vs : List V} {ds : List D}, RepL K H vs ds → vs.length = ds.length
  | _, _, .nil => rfl
  | _, _, .cons _ r => by simp [RepL.length r]
theorem RepL.append : ∀ {vs ws : List V} {ds es : List D}, RepL K H vs ds → RepL K H ws es → RepL K H (vs ++ ws) (ds ++ es)
  | _, _, _, _, .nil, s => s
  | _, _, _, _, .cons h r, s => .cons h (RepL.append r s)
theorem RepL.get : ∀ {vs : List V} {ds : List D} {i : Nat} {d : D}, RepL K H vs ds → ds[i]? = some d → ∃ v, vs[i]? = some v ∧ Rep K H v d
  | _, _, _, _, .nil, e => by simp at e
  | _, _, 0, _, .cons h _, e => by simp at e; subst e; exact ⟨_, rfl, h⟩
  | _, _, i + 1, d, .cons _ r, e => by
    obtain ⟨v, h1, h2⟩ := RepL.get (i := i) (d := d) r (by simpa using e)
    exact ⟨v, by simpa using h1, h2⟩
theorem RepL.take : ∀ {vs : List V} {ds : List D} (n : Nat), RepL K H vs ds → RepL K H (vs.take n) (ds.take n)
  | _, _, 0, _ => by simp; exact .nil
  | _, _, _ + 1, .nil => .nil
  | _, _, n + 1, .cons h r => .cons h (RepL.take n r)
theorem RepL.drop : ∀ {vs : List V} {ds : List D} (n : Nat), RepL K H vs ds → RepL K H (vs.drop n) (ds.drop n)
  | _, _, 0, r => r
  | _, _, _ + 1, .nil => .nil
  | _, _, n + 1, .cons _ r => RepL.drop n r
theorem RepL.set {x : V} {d : D} (h : Rep K H x d) : ∀ {vs : List V} {ds : List D} (i : Nat), RepL K H vs ds → RepL K H (vs.set i x) (ds.set i d)
  | _, _, _, .nil => .nil
  | _, _, 0, .cons _ r => .cons h r
  | _, _, i + 1, .cons q r => .cons q (RepL.set h i r)
theorem RepL.reverse {vs : List V} {ds : List D} (h : RepL K H vs ds) : RepL K H vs.reverse ds.reverse := by
  induction vs generalizing ds with
  | nil => cases h; exact .nil
  | cons v vs ih =>
    cases h with
    | cons h r =>
      rw [List.reverse_cons, List.reverse_cons]
      exact (ih r).append (.cons h .nil)
theorem RepL.nil_iff {vs : List V} {ds : List D} (h : RepL K H vs ds) : vs.isEmpty = ds.isEmpty := by cases h <;> rfl
theorem RepL.ints : ∀ {vs : List V} {ns : List Int}, RepL K H vs (ns.map D.int) → vs = ns.map V.int
  | _, [], h => by cases h; rfl
  | _, n :: ns, h => by
    cases h with
    | cons h r => cases h; rw [RepL.ints r]; rfl
theorem RepL.of_ints : ∀ ns : List Int, RepL K H (ns.map V.int) (ns.map D.int)
  | [] => .nil
  | n :: ns => .cons (.int n) (RepL.of_ints ns)
def sOf (s : List Nat) : Str := ⟨s.toArray⟩
theorem RepL.strs : ∀ {vs : List V} {ns : List (List Nat)}, RepL K H vs (ns.map D.str) → vs = (ns.map sOf).map V.str
  | _, [], h => by cases h; rfl
  | _, n :: ns, h => by
    cases h with
    | cons h r => cases h; rw [RepL.strs r]; rfl
theorem RepL.of_strs : ∀ ns : List (List Nat), RepL K H ((ns.map sOf).map V.str) (ns.map D.str)
  | [] => .nil
  | n :: ns => .cons (.str n) (RepL.of_strs ns)
theorem RepL.bls : ∀ {vs : List V} {ns : List Bool}, RepL K H vs (ns.map D.bl) → vs = ns.map V.bl
  | _, [], h => by cases h; rfl
  | _, n :: ns, h => by
    cases h with
    | cons h r => cases h; rw [RepL.bls r]; rfl
end
abbrev cs (x : Str) : List Nat := x.cps.toList
theorem Rep.cs {K : Fg} {H : Hp} (x : Str) : Rep K H (.str x) (.str (cs x)) := by
  have e : x = ⟨(T.cs x).toArray⟩ := by cases x; simp
  have h : Rep K H (.str ⟨(T.cs x).toArray⟩) (.str (T.cs x)) := .str _
  rw [← e] at h
  exact h
inductive Cell where
  | lst (ds : List D)
  | dk (kvs : List (Key × D))
  | dt (kvs : List (List Key × D))
  | ins (c : Str) (fs : List (Str × D))
  /-- dicts that stay as they are from now on -/
  | fk (o : Obj) (xs : List (Key × V)) (kvs : List (Key × D))
  | ft (o : Obj) (xs : List (List Key × V)) (kvs : List (List Key × D))
abbrev Om := Addr → Option Cell
def Om.set (o : Om) (a : Addr) (c : Cell) : Om := fun b => if b = a then some c else o b
theorem Om.set_same {o : Om} {a : Addr} {c : Cell} : o.set a c a = some c := by unfold Om.set; rw [if_pos rfl]
theorem Om.set_ne {o : Om} {a b : Addr} {c : Cell} (h : b ≠ a) : o.set a c b = o b := by unfold Om.set; rw [if_neg h]
theorem Om.set_set {o : Om} {a : Addr} {c d : Cell} : (o.set a c).set a d = o.set a d := by
  funext b; unfold Om.set; split <;> rfl
theorem Om.set_comm {o : Om} {a b : Addr} {c d : Cell} (h : a ≠ b) : (o.set a c).set b d = (o.set b d).set a c := by
  funext x; unfold Om.set
  by_cases h1 : x = a
  · subst h1; simp [h]
  · simp [h1]
theorem Om.set_self {o : Om} {a : Addr} {c : Cell} (h : o a = some c) : o.set a c = o := by
  funext b; unfold Om.set
  by_cases hb : b = a
  · subst hb; rw [if_pos rfl, h]
  · rw [if_neg hb]
def Om.del (o : Om) (a : Addr) : Om := fun b => if b = a then none else o b
theorem rep_tup {K : Fg} {H : Hp} {v : V} {ds : List D} (h : Rep K H v (.tup ds)) : ∃ a xs, v = .ref a ∧ SqT K H a xs ∧ RepL K H xs ds := by
  cases h with
  | tup h r => exact ⟨_, _, rfl, h, r⟩
theorem rep_lst {K : Fg} {H : Hp} {v : V} {ds : List D} (h : Rep K H v (.lst ds)) : ∃ a xs, v = .ref a ∧ H a = some (.lst xs) ∧ RepL K H xs ds := by
  cases h with
  | lst h r => exact ⟨_, _, rfl, h, r⟩
theorem rep_scr {K : Fg} {H : Hp} {v : V} {ns : List Int} (h : Rep K H v (.scr ns)) : ∃ a, v = .ref a ∧ SqL K H a (ns.map V.int) := by
  cases h with
  | scr h => exact ⟨_, rfl, h⟩
def RepK {κ : Type} (K : Fg) (Hd : Hp) : List (κ × V) → List (κ × D) → Prop := Paired fun p q => p.1 = q.1 ∧ Rep K Hd p.2 q.2
theorem RepK.mono {κ : Type} {K : Fg} {H H' : Hp} (e : Exd H H') {xs : List (κ × V)} {ds : List (κ × D)} (h : RepK K H xs ds) : RepK K H' xs ds := Paired.mapP h fun _ _ z => ⟨z.1, z.2.mono e⟩
def RepC (K : Fg) (Hd H : Hp) (a : Addr) : Cell → Prop
  | .lst ds => ∃ xs, H a = some (.lst xs) ∧ RepL K Hd xs ds
  | .dk kvs => ∃ ks, H a = some (.dK ks) ∧ RepK K Hd ks kvs
  | .dt kvs => ∃ ks, H a = some (.dT ks) ∧ RepK K Hd ks kvs
  | .ins c fs => ∃ dx vs, H a = some (.ins (He.ga K c) dx vs) ∧ RepK K Hd vs fs
  | .fk o xs kvs => H a = some (.frz o (.dK xs)) ∧ RepK K Hd xs kvs
  | .ft o xs kvs => H a = some (.frz o (.dT xs)) ∧ RepK K Hd xs kvs
theorem RepC.mono {K : Fg} {Hd Hd' H H' : Hp} {a : Addr} {c : Cell} (e : Exd Hd Hd') (k : ∀ o, H a = some o → H' a = some o) (h : RepC K Hd H a c) : RepC K Hd' H' a c := by
  cases c with
  | lst ds => obtain ⟨xs, h1, h2⟩ := h; exact ⟨xs, k _ h1, h2.mono e⟩
  | dk kvs => obtain ⟨xs, h1, h2⟩ := h; exact ⟨xs, k _ h1, h2.mono e⟩
  | dt kvs => obtain ⟨xs, h1, h2⟩ := h; exact ⟨xs, k _ h1, h2.mono e⟩
  | ins c fs => obtain ⟨dx, xs, h1, h2⟩ := h; exact ⟨dx, xs, k _ h1, h2.mono e⟩
  | fk o xs kvs => obtain ⟨h1, h2⟩ := h; exact ⟨k _ h1, h2.mono e⟩
  | ft o xs kvs => obtain ⟨h1, h2⟩ := h; exact ⟨k _ h1, h2.mono e⟩
theorem RepC.some {K : Fg} {Hd H : Hp} {a : Addr} {c : Cell} (h : RepC K Hd H a c) : ∃ o, H a = some o := by
  cases c with
  | lst ds => obtain ⟨xs, h1, _⟩ := h; exact ⟨_, h1⟩
  | dk kvs => obtain ⟨xs, h1, _⟩ := h; exact ⟨_, h1⟩
  | dt kvs => obtain ⟨xs, h1, _⟩ := h; exact ⟨_, h1⟩
  | ins c fs => obtain ⟨dx, xs, h1, _⟩ := h; exact ⟨_, h1⟩
  | fk o xs kvs => obtain ⟨h1, _⟩ := h; exact ⟨_, h1⟩
  | ft o xs kvs => obtain ⟨h1, _⟩ := h; exact ⟨_, h1⟩
def NT (o : HO) : Prop := (∀ ps, o ≠ .tbl ps)
theorem repC_plain {K : Fg} {Hd H : Hp} {a : Addr} {c : Cell} (h : RepC K Hd H a c) {o : HO} (e : H a = some o) : NT o ∧ ∀ c' q, o ≠ LamX.CodeO c' q := by
  have key : ∀ u : HO, H a = some u → (∀ ps, u ≠ .tbl ps) → (∀ c' q, u ≠ LamX.CodeO c' q) → NT o ∧ ∀ c' q, o ≠ LamX.CodeO c' q := fun u h1 h2 h3 => by
    rw [e] at h1; cases h1; exact ⟨h2, h3⟩
  cases c with
  | lst ds => obtain ⟨xs, h1, _⟩ := h; exact key _ h1 (fun _ z => by cases z) fun _ _ z => by unfold LamX.CodeO at z; cases z
  | dk kvs => obtain ⟨xs, h1, _⟩ := h; exact key _ h1 (fun _ z => by cases z) fun _ _ z => by unfold LamX.CodeO at z; cases z
  | dt kvs => obtain ⟨xs, h1, _⟩ := h; exact key _ h1 (fun _ z => by cases z) fun _ _ z => by unfold LamX.CodeO at z; cases z
  | ins c fs => obtain ⟨dx, xs, h1, _⟩ := h; exact key _ h1 (fun _ z => by cases z) fun _ _ z => by unfold LamX.CodeO at z; cases z
  | fk o xs kvs => obtain ⟨h1, _⟩ := h; exact key _ h1 (fun _ z => by cases z) fun _ _ z => by unfold LamX.CodeO at z; cases z
  | ft o xs kvs => obtain ⟨h1, _⟩ := h; exact key _ h1 (fun _ z => by cases z) fun _ _ z => by unfold LamX.CodeO at z; cases z
theorem tabs_put {T : List NdefX.NTab} {H : Hp} {p : Addr} {o u : HO} (t : NdefX.TabsN T H) (hp : H p = some u) (hn : NT u) (hc : ∀ c' q, u ≠ LamX.CodeO c' q) : NdefX.TabsN T (upd H p o) := fun x hx => by
  obtain ⟨ps, h1, h2, h3⟩ := t x hx
  have n1 : x.1 ≠ p := fun z => by rw [z, hp] at h1; exact hn ps (Option.some.inj h1)
  refine ⟨ps, (upd_ne n1).trans h1, h2, fun pos cv hv => ?_⟩
  obtain ⟨c, e1, e2⟩ := h3 pos cv hv
  refine ⟨c, e1, (upd_ne fun z => ?_).trans e2⟩
  rw [z, hp] at e2
  exact hc _ _ (Option.some.inj e2)
theorem tabs_new {T : List NdefX.NTab} {H : Hp} {p : Addr} {o : HO} (t : NdefX.TabsN T H) (hp : H p = none) : NdefX.TabsN T (upd H p o) := t.ext fun b u e => (upd_ne (ne_of_none e hp)).trans e
def innerOf : List Stmt → Str
  | [] => "<lambda>"
  | .FunctionDef name _ _ _ _ _ _ _ _ _ :: _ => name
  | _ :: r => innerOf r
def tabOne (K : Fg) (p : Addr × Obj) : Option (Addr × Str) := match p.2.data with
  | .func fd => (match fd.code, fd.body with
    | .ref c, .stmts b => if PySem.W.codeHdIn K c (He.tabOf K c) && (K.lookup (He.tabOf K c)).isNone then some (He.tabOf K c, fd.qualname ++ ".<locals>." ++ innerOf b) else none
    | _, _ => none)
  | _ => none
def tabsOf (K : Fg) : List (Addr × Str) := K.filterMap (tabOne K)
def tabsN (K : Fg) : List NdefX.NTab := (tabsOf K).map fun p => (p.1, fun _ _ => p.2)
structure Z where
  d : Hp
  h : Hp
  o : Om
  t : List NdefX.NTab
structure Z.Ok (K : Fg) (z : Z) : Prop where
  fz : Exd z.d z.h
  cell : ∀ a c, z.o a = some c → z.d a = none ∧ RepC K z.d z.h a c
  tab : NdefX.TabsN z.t z.h
  tk : z.t = tabsN K
  nd : ∀ a o, z.d a = some o → NT o
structure To (K : Fg) (z z2 : Z) : Prop where
  ok : z2.Ok K
  ex : Exd z.d z2.d
  keep : ∀ a o, z.h a = some o → z.o a = none → NT o → z2.h a = some o
  kept : ∀ a, z.h a ≠ none → z2.h a ≠ none
  tt : z2.t = z.t
  fresh : ∀ a, z2.o a ≠ none → z.o a ≠ none ∨ z.h a = none
  freshd : ∀ a, z2.d a ≠ none → z.d a ≠ none ∨ z.h a = none ∨ z.o a ≠ none ∨ ∃ o, z.h a = some o ∧ ∀ xs, o ≠ .lst xs
section
variable {K : Fg} {z z1 z2 z3 : Z}
theorem Z.Ok.to (h : z.Ok K) : To K z z := ⟨h, .refl _, fun _ _ e _ _ => e, fun _ e => e, rfl, fun _ e => .inl e, fun _ e => .inl e⟩
theorem To.free (a : To K z z2) {p : Addr} (h : z2.h p = none) : z.h p = none := by
  cases e : z.h p with
  | none => rfl
  | some o => exact absurd h (a.kept p (by rw [e]; simp))
theorem To.trans (a : To K z z2) (b : To K z2 z3) : To K z z3 where
  ok := b.ok
  ex := a.ex.trans b.ex
  keep := fun p o h n nt => b.keep p o (a.keep p o h n nt) (by
    cases e : z2.o p with
    | none => rfl
    | some c =>
      rcases a.fresh p (by simp [e]) with q | q
      · exact absurd n q
      · rw [h] at q; cases q) nt
  kept := fun p h => b.kept p (a.kept p h)
  tt := b.tt.trans a.tt
  fresh := fun p h => by
    rcases b.fresh p h with q | q
    · exact a.fresh p q
    · exact .inr (a.free q)
  freshd := fun p h => by
    rcases b.freshd p h with q | q | q | ⟨o, q, n⟩
    · exact a.freshd p q
    · exact .inr (.inl (a.free q))
    · rcases a.fresh p q with r | r
      · exact .inr (.inr (.inl r))
      · exact .inr (.inl r)
    · cases e : z.h p with
      | none => exact .inr (.inl rfl)
      | some u =>
        cases f : z.o p with
        | some c => exact .inr (.inr (.inl (by simp)))
        | none =>
          refine .inr (.inr (.inr ⟨u, rfl, fun xs g => ?_⟩))
          have := a.keep p u e f (by intro _ w; rw [g] at w; cases w)
          rw [q] at this
          exact n xs (by rw [Option.some.inj this, g])
theorem Z.Ok.free (k : z.Ok K) {p : Addr} (h : z.h p = none) : z.d p = none ∧ z.o p = none := by
  constructor
  · cases e : z.d p with
    | none => rfl
    | some o => have := k.fz p o e; rw [h] at this; cases this
  · cases e : z.o p with
    | none => rfl
    | some c =>
      obtain ⟨o, ho⟩ := (k.cell p c e).2.some
      rw [h] at ho; cases ho
theorem upd_kept {H : Hp} {p : Addr} {o : HO} (a : Addr) (h : H a ≠ none) : upd H p o a ≠ none := by
  by_cases q : a = p
  · subst q; rw [upd_same]; simp
  · rw [upd_ne q]; exact h
theorem nd_upd {d : Hp} {p : Addr} {o : HO} (k : ∀ a u, d a = some u → NT u) (h : NT o) : ∀ a u, upd d p o a = some u → NT u := fun a u e => by
  by_cases q : a = p
  · subst q; rw [upd_same] at e; cases e; exact h
  · rw [upd_ne q] at e; exact k a u e
theorem Z.Ok.add (k : z.Ok K) {p : Addr} {o : HO} (h : z.h p = none) (nt : NT o := by intro _ z; cases z) : To K z ⟨upd z.d p o, upd z.h p o, z.o, z.t⟩ := by
  obtain ⟨hd, ho⟩ := k.free h
  refine ⟨⟨fun a u e => ?_, fun a c e => ?_, tabs_new k.tab h, k.tk, nd_upd k.nd nt⟩, Exd.new hd, fun a u e _ _ => ?_, upd_kept, rfl, fun _ e => .inl e, fun a e => ?_⟩
  · show upd z.h p o a = some u
    have e : upd z.d p o a = some u := e
    by_cases q : a = p
    · subst q; rw [upd_same] at e ⊢; exact e
    · rw [upd_ne q] at e ⊢; exact k.fz a u e
  · have ne : a ≠ p := fun q => by subst q; rw [show z.o a = some c from e] at ho; cases ho
    obtain ⟨c1, c2⟩ := k.cell a c e
    exact ⟨(upd_ne ne).trans c1, c2.mono (Exd.new hd) fun u e => (upd_ne ne).trans e⟩
  · exact (upd_ne (ne_of_none e h)).trans e
  · by_cases q : a = p
    · subst q; exact .inr (.inl h)
    · exact .inl (by have e : upd z.d p o a ≠ none := e; rw [upd_ne q] at e; exact e)
theorem Z.Ok.lay (k : z.Ok K) {p : Addr} {o : HO} {c : Cell} (h : z.h p = none) (r : RepC K z.d (upd z.h p o) p c) : To K z ⟨z.d, upd z.h p o, z.o.set p c, z.t⟩ := by
  obtain ⟨hd, ho⟩ := k.free h
  refine ⟨⟨fun a u e => ?_, fun a c' e => ?_, tabs_new k.tab h, k.tk, k.nd⟩, .refl _, fun a u e _ _ => ?_, upd_kept, rfl, fun a e => ?_, fun a e => .inl e⟩
  · exact (upd_ne (ne_of_none (k.fz a u e) h)).trans (k.fz a u e)
  · by_cases q : a = p
    · subst q
      have e : z.o.set a c a = some c' := e
      rw [Om.set_same] at e; cases e
      exact ⟨hd, r⟩
    · have e : z.o.set p c a = some c' := e
      rw [Om.set_ne q] at e
      obtain ⟨c1, c2⟩ := k.cell a c' e
      exact ⟨c1, c2.mono (.refl _) fun u e => (upd_ne q).trans e⟩
  · exact (upd_ne (ne_of_none e h)).trans e
  · by_cases q : a = p
    · subst q; exact .inr h
    · exact .inl (by have e : z.o.set p c a ≠ none := e; rw [Om.set_ne q] at e; exact e)
theorem Z.Ok.put (k : z.Ok K) {p : Addr} {o : HO} {c c' : Cell} (h : z.o p = some c) (r : RepC K z.d (upd z.h p o) p c') : To K z ⟨z.d, upd z.h p o, z.o.set p c', z.t⟩ := by
  obtain ⟨hd, hc⟩ := k.cell p c h
  obtain ⟨u0, hu0⟩ := hc.some
  obtain ⟨n1, n2⟩ := repC_plain hc hu0
  refine ⟨⟨fun a u e => ?_, fun a c1 e => ?_, tabs_put k.tab hu0 n1 n2, k.tk, k.nd⟩, .refl _, fun a u e n _ => ?_, upd_kept, rfl, fun a e => ?_, fun a e => .inl e⟩
  · have ne : a ≠ p := fun q => by subst q; rw [show z.d a = some u from e] at hd; cases hd
    exact (upd_ne ne).trans (k.fz a u e)
  · by_cases q : a = p
    · subst q
      have e : z.o.set a c' a = some c1 := e
      rw [Om.set_same] at e; cases e
      exact ⟨hd, r⟩
    · have e : z.o.set p c' a = some c1 := e
      rw [Om.set_ne q] at e
      obtain ⟨c2, c3⟩ := k.cell a c1 e
      exact ⟨c2, c3.mono (.refl _) fun u e => (upd_ne q).trans e⟩
  · exact (upd_ne (fun q => by subst q; rw [n] at h; cases h)).trans e
  · by_cases q : a = p
    · subst q; exact .inl (by rw [h]; simp)
    · exact .inl (by have e : z.o.set p c' a ≠ none := e; rw [Om.set_ne q] at e; exact e)
theorem Z.Ok.freeze (k : z.Ok K) {p : Addr} {o : HO} {c : Cell} (h : z.o p = some c) (ho : z.h p = some o) : To K z ⟨upd z.d p o, z.h, z.o.del p, z.t⟩ := by
  obtain ⟨hd, hc0⟩ := k.cell p c h
  refine ⟨⟨fun a u e => ?_, fun a c1 e => ?_, k.tab, k.tk, nd_upd k.nd (repC_plain hc0 ho).1⟩, Exd.new hd, fun a u e _ _ => e, fun _ e => e, rfl, fun a e => ?_, fun a e => ?_⟩
  · by_cases q : a = p
    · subst q
      have e : upd z.d a o a = some u := e
      rw [upd_same] at e; cases e; exact ho
    · have e : upd z.d p o a = some u := e
      rw [upd_ne q] at e; exact k.fz a u e
  · have e : (if a = p then none else z.o a) = some c1 := e
    by_cases q : a = p
    · rw [if_pos q] at e; cases e
    · rw [if_neg q] at e
      obtain ⟨c2, c3⟩ := k.cell a c1 e
      exact ⟨(upd_ne q).trans c2, c3.mono (Exd.new hd) fun u e => e⟩
  · have e : (if a = p then none else z.o a) ≠ none := e
    by_cases q : a = p
    · rw [if_pos q] at e; exact absurd rfl e
    · rw [if_neg q] at e; exact .inl e
  · by_cases q : a = p
    · subst q; exact .inr (.inr (.inl (by rw [h]; simp)))
    · exact .inl (by have e : upd z.d p o a ≠ none := e; rw [upd_ne q] at e; exact e)
end
abbrev En := List (Option D)
structure RepE (K : Fg) (Hd : Hp) (σ : St) (ρ : En) : Prop where
  len : σ.length = ρ.length
  at_ : ∀ (i : Nat) (d : D), ρ[i]? = some (some d) → ∃ v, σ[i]? = some (some v) ∧ Rep K Hd v d
theorem RepE.mono {K : Fg} {H H' : Hp} {σ : St} {ρ : En} (e : Exd H H') (r : RepE K H σ ρ) : RepE K H' σ ρ := ⟨r.len, fun i d h => let ⟨v, h1, h2⟩ := r.at_ i d h; ⟨v, h1, h2.mono e⟩⟩
theorem RepE.set {K : Fg} {H : Hp} {σ : St} {ρ : En} {v : V} {d : D} (r : RepE K H σ ρ) (i : Nat) (h : Rep K H v d) : RepE K H (σ.set i (some v)) (ρ.set i (some d)) := by
  refine ⟨by rw [List.length_set, List.length_set]; exact r.len, fun j e hj => ?_⟩
  by_cases q : i = j
  · subst q
    by_cases hi : i < ρ.length
    · rw [List.getElem?_set_self hi] at hj
      cases hj
      exact ⟨v, List.getElem?_set_self (by rw [r.len]; exact hi), h⟩
    · rw [List.getElem?_eq_none (by simpa using hi)] at hj; cases hj
  · rw [List.getElem?_set_ne q] at hj
    obtain ⟨w, h1, h2⟩ := r.at_ j e hj
    exact ⟨w, by rw [List.getElem?_set_ne q]; exact h1, h2⟩
theorem RepE.del {K : Fg} {H : Hp} {σ : St} {ρ : En} (r : RepE K H σ ρ) (i : Nat) (x : Option V) : RepE K H (σ.set i x) (ρ.set i none) := by
  refine ⟨by rw [List.length_set, List.length_set]; exact r.len, fun j e hj => ?_⟩
  by_cases q : i = j
  · subst q
    by_cases hi : i < ρ.length
    · rw [List.getElem?_set_self hi] at hj; cases hj
    · rw [List.getElem?_eq_none (by simpa using hi)] at hj; cases hj
  · rw [List.getElem?_set_ne q] at hj
    obtain ⟨w, h1, h2⟩ := r.at_ j e hj
    exact ⟨w, by rw [List.getElem?_set_ne q]; exact h1, h2⟩
def wipeD (ρ : En) : List Nat → En
  | [] => ρ
  | v :: vs => (wipeD ρ vs).set v none
theorem RepE.wipe {K : Fg} {H : Hp} {σ : St} {ρ : En} (r : RepE K H σ ρ) : ∀ vs : List Nat, RepE K H (wipe σ vs) (wipeD ρ vs)
  | [] => r
  | v :: vs => (RepE.wipe r vs).del v none
structure Exn where
  c : Str
  f : Option (Str × D)
def RepX (K : Fg) (z : Z) (cls : Value) (d : Option Addr) (x : Exn) : Prop := cls = .ref (He.ga K x.c) ∧ match x.f with
  | none => d = none
  | some p => ∃ a v, d = some a ∧ z.d a = some (.xd [(p.1, v)]) ∧ Rep K z.d v p.2
abbrev WPe := En → Om → (D → Om → Prop) → (Exn → Om → Prop) → Prop
structure BE (K : Fg) where
  t : WX → TE
  w : WPe
  ok : ∀ (W : WX) (ρ : En) (z : Z) (σ : St) (Q : VK) (Φ : D → Om → Prop) (Ψ : Exn → Om → Prop), w ρ z.o Φ Ψ → z.Ok K → RepE K z.d σ ρ →
    (∀ v z2 d, To K z z2 → Rep K z2.d v d → Φ d z2.o → Q v z2.h) → (∀ x cls d z2, To K z z2 → RepX K z2 cls d x → Ψ x z2.o → W cls d σ z2.h) → t W σ z.h Q
structure BT (K : Fg) where
  t : WX → TT
  w : En → Om → (Bool → Om → Prop) → (Exn → Om → Prop) → Prop
  ok : ∀ (W : WX) (ρ : En) (z : Z) (σ : St) (Q : Bool → Hp → Prop) (Φ : Bool → Om → Prop) (Ψ : Exn → Om → Prop), w ρ z.o Φ Ψ → z.Ok K → RepE K z.d σ ρ →
    (∀ b z2, To K z z2 → Φ b z2.o → Q b z2.h) → (∀ x cls d z2, To K z z2 → RepX K z2 cls d x → Ψ x z2.o → W cls d σ z2.h) → t W σ z.h Q
structure BA (K : Fg) where
  t : WX → TA
  w : En → Om → (List D → Om → Prop) → (Exn → Om → Prop) → Prop
  ok : ∀ (W : WX) (ρ : En) (z : Z) (σ : St) (Q : List V → Hp → Prop) (Φ : List D → Om → Prop) (Ψ : Exn → Om → Prop), w ρ z.o Φ Ψ → z.Ok K → RepE K z.d σ ρ →
    (∀ vs z2 ds, To K z z2 → RepL K z2.d vs ds → Φ ds z2.o → Q vs z2.h) → (∀ x cls d z2, To K z z2 → RepX K z2 cls d x → Ψ x z2.o → W cls d σ z2.h) → t W σ z.h Q
structure KD where
  nx : En → Om → Prop
  rt : D → Om → Prop
  bk : En → Om → Prop
  ct : En → Om → Prop
  xc : Exn → En → Om → Prop
structure KOk (K : Fg) (W : WX) (z : Z) (k : KD) (D' : Ends) : Prop where
  nx : ∀ σ2 ρ2 z2, To K z z2 → RepE K z2.d σ2 ρ2 → k.nx ρ2 z2.o → D'.nx σ2 z2.h
  rt : ∀ v d z2, To K z z2 → Rep K z2.d v d → k.rt d z2.o → D'.rt v z2.h
  bk : ∀ σ2 ρ2 z2, To K z z2 → RepE K z2.d σ2 ρ2 → k.bk ρ2 z2.o → D'.bk σ2 z2.h
  ct : ∀ σ2 ρ2 z2, To K z z2 → RepE K z2.d σ2 ρ2 → k.ct ρ2 z2.o → D'.ct σ2 z2.h
  xc : ∀ x cls d σ2 ρ2 z2, To K z z2 → RepE K z2.d σ2 ρ2 → RepX K z2 cls d x → k.xc x ρ2 z2.o → W cls d σ2 z2.h
theorem KOk.to {K : Fg} {W : WX} {z z1 : Z} {k : KD} {D' : Ends} (h : KOk K W z k D') (t : To K z z1) : KOk K W z1 k D' :=
  ⟨fun _ _ _ a => h.nx _ _ _ (t.trans a), fun _ _ _ a => h.rt _ _ _ (t.trans a), fun _ _ _ a => h.bk _ _ _ (t.trans a), fun _ _ _ a => h.ct _ _ _ (t.trans a), fun _ _ _ _ _ _ a => h.xc _ _ _ _ _ _ (t.trans a)⟩
structure BS (K : Fg) where
  t : WX → TS
  w : En → Om → KD → Prop
  ok : ∀ (W : WX) (ρ : En) (z : Z) (σ : St) (D' : Ends) (k : KD), w ρ z.o k → z.Ok K → RepE K z.d σ ρ → KOk K W z k D' → t W D' σ z.h
structure BG (K : Fg) where
  t : TG
  w : D → En → Om → (En → Om → Prop) → Prop
  ok : ∀ (d : D) (v : V) (ρ : En) (z : Z) (σ : St) (Q : St → Hp → Prop) (Φ : En → Om → Prop), w d ρ z.o Φ → z.Ok K → RepE K z.d σ ρ → Rep K z.d v d →
    (∀ σ2 ρ2 z2, To K z z2 → RepE K z2.d σ2 ρ2 → Φ ρ2 z2.o → Q σ2 z2.h) → t v σ z.h Q
section
variable {K : Fg}
def bVar (i : Nat) : BE K where
  t := fun _ => tVar i
  w := fun ρ ω Φ _ => match ρ[i]? with
    | some (some d) => Φ d ω
    | _ => False
  ok := fun W ρ z σ Q Φ Ψ h k r q _ => by
    split at h
    · rename_i d e
      obtain ⟨v, h1, h2⟩ := r.at_ i d e
      exact ⟨v, h1, q v z d k.to h2 h⟩
    · exact h.elim
def bCon (v : V) (d : D) (hr : ∀ H, Rep K H v d) : BE K where
  t := fun _ => tC v
  w := fun _ ω Φ _ => Φ d ω
  ok := fun W ρ z σ Q Φ Ψ h k r q _ => q v z d k.to (hr _) h
abbrev bInt (i : Int) : BE K := bCon (.int i) (.int i) fun _ => .int i
abbrev bBl (b : Bool) : BE K := bCon (.bl b) (.bl b) fun _ => .bl b
abbrev bNon : BE K := bCon .non .non fun _ => .non
structure O2 (K : Fg) where
  r : R2
  w : D → D → Om → (D → Om → Prop) → Prop
  ok : ∀ (z : Z) (x y : V) (d e : D) (Q : VK) (Φ : D → Om → Prop), w d e z.o Φ → z.Ok K → Rep K z.d x d → Rep K z.d y e → (∀ v z2 c, To K z z2 → Rep K z2.d v c → Φ c z2.o → Q v z2.h) → r x y z.h Q
def bOp (o : O2 K) (a b : BE K) : BE K where
  t := fun W => tOp o.r (a.t W) (b.t W)
  w := fun ρ ω Φ Ψ => a.w ρ ω (fun x ω1 => b.w ρ ω1 (fun y ω2 => o.w x y ω2 Φ) Ψ) Ψ
  ok := fun W ρ z σ Q Φ Ψ h k r q qx => by
    refine a.ok W ρ z σ _ _ Ψ h k r (fun x z1 d t1 r1 h1 => ?_) qx
    refine b.ok W ρ z1 σ _ _ Ψ h1 t1.ok (r.mono t1.ex) (fun y z2 e t2 r2 h2 => ?_) fun x cls d z2 t2 => qx x cls d z2 (t1.trans t2)
    exact o.ok z2 x y d e Q Φ h2 t2.ok (r1.mono t2.ex) r2 fun v z3 c t3 => q v z3 c ((t1.trans t2).trans t3)
def O2.or (o p : O2 K) (w : D → D → Om → (D → Om → Prop) → Prop) (h : ∀ d e ω Φ, w d e ω Φ → o.w d e ω Φ ∨ p.w d e ω Φ) : O2 K where
  r := fun x y H Q => o.r x y H Q ∨ p.r x y H Q
  w := w
  ok := fun z x y d e Q Φ hw k r1 r2 q => by
    rcases h d e z.o Φ hw with h | h
    · exact .inl (o.ok z x y d e Q Φ h k r1 r2 q)
    · exact .inr (p.ok z x y d e Q Φ h k r1 r2 q)
def oI0 (g : Int → Int → V) (gd : Int → Int → D) (hg : ∀ i j H, Rep K H (g i j) (gd i j)) : O2 K where
  r := rI0 g
  w := fun x y ω Φ => match x, y with
    | .int i, .int j => Φ (gd i j) ω
    | _, _ => False
  ok := fun z x y d e Q Φ h k r1 r2 q => by
    split at h
    · cases r1; cases r2
      exact ⟨_, _, rfl, rfl, q _ z _ k.to (hg _ _ _) h⟩
    · exact h.elim
def oI (C : Int → Int → Prop) (g : Int → Int → V) (gd : Int → Int → D) (hg : ∀ i j H, Rep K H (g i j) (gd i j)) : O2 K where
  r := rI C g
  w := fun x y ω Φ => match x, y with
    | .int i, .int j => C i j ∧ Φ (gd i j) ω
    | _, _ => False
  ok := fun z x y d e Q Φ h k r1 r2 q => by
    split at h
    · cases r1; cases r2
      exact ⟨_, _, rfl, rfl, h.1, q _ z _ k.to (hg _ _ _) h.2⟩
    · exact h.elim
end
end
section
theorem cs_append (x y : Str) : cs (x ++ y) = cs x ++ cs y := TL.tl_append x y
theorem sOf_append (s t : List Nat) : (⟨s.toArray⟩ : Str) ++ ⟨t.toArray⟩ = ⟨(s ++ t).toArray⟩ := by
  have h := cs_append ⟨s.toArray⟩ ⟨t.toArray⟩
  have e : ∀ x : Str, x = ⟨(cs x).toArray⟩ := fun x => by cases x; simp
  rw [e (⟨s.toArray⟩ ++ ⟨t.toArray⟩), h]
theorem sOf_len (s : List Nat) : (⟨s.toArray⟩ : Str).length = s.length := by show s.toArray.size = s.length; simp
theorem sOf_inj {s t : List Nat} : ((⟨s.toArray⟩ : Str) = ⟨t.toArray⟩) ↔ s = t := by
  constructor
  · intro h
    injection h with h
    simpa using h
  · rintro rfl; rfl
theorem sOf_cs (x : Str) : (⟨(cs x).toArray⟩ : Str) = x := by cases x; simp
section
variable {K : Fg}
def oAddStr : O2 K where
  r := fun x y H Q => ∃ i j, x = .str i ∧ y = .str j ∧ i.length + j.length ≤ sizeLine ∧ Q (.str (i ++ j)) H
  w := fun x y ω Φ => match x, y with
    | .str s, .str t => s.length + t.length ≤ sizeLine ∧ Φ (.str (s ++ t)) ω
    | _, _ => False
  ok := fun z x y d e Q Φ h k r1 r2 q => by
    split at h
    · rename_i s t
      cases r1; cases r2
      refine ⟨_, _, rfl, rfl, by rw [sOf_len, sOf_len]; exact h.1, ?_⟩
      rw [sOf_append]
      exact q _ z _ k.to (.str _) h.2
    · exact h.elim
def lstOf (ω : Om) : D → Option (List D)
  | .lst ds => some ds
  | .ref a => match ω a with
    | some (.lst ds) => some ds
    | _ => none
  | _ => none
theorem lst_of {z : Z} (k : z.Ok K) {v : V} {d : D} {ds : List D} (r : Rep K z.d v d) (h : lstOf z.o d = some ds) : ∃ a xs, v = .ref a ∧ z.h a = some (.lst xs) ∧ RepL K z.d xs ds := by
  cases r with
  | lst h1 h2 =>
    cases h
    exact ⟨_, _, rfl, k.fz _ _ h1, h2⟩
  | ref a =>
    cases e : z.o a with
    | none => simp [lstOf, e] at h
    | some c =>
      cases c with
      | lst es =>
        simp [lstOf, e] at h
        subst h
        obtain ⟨_, xs, h1, h2⟩ := k.cell a _ e
        exact ⟨a, xs, rfl, h1, h2⟩
      | _ => simp [lstOf, e] at h
  | _ => simp [lstOf] at h
def oAddLst : O2 K where
  r := rCat
  w := fun x y ω Φ => ∃ ds es, lstOf ω x = some ds ∧ lstOf ω y = some es ∧ ds.length + es.length ≤ sizeLine ∧ Φ (.lst (ds ++ es)) ω
  ok := fun z x y d e Q Φ h k r1 r2 q => by
    obtain ⟨ds, es, h1, h2, h3, h4⟩ := h
    obtain ⟨a, xs, rfl, ha, rx⟩ := lst_of k r1 h1
    obtain ⟨b, ys, rfl, hb, ry⟩ := lst_of k r2 h2
    refine ⟨a, b, xs, ys, rfl, rfl, ha, hb, by rw [rx.length, ry.length]; exact h3, fun p hp => ?_⟩
    have t := k.add (o := .lst (xs ++ ys)) hp
    exact q _ _ _ t (.lst (upd_same) ((rx.append ry).mono t.ex)) h4
def oAddLstO : O2 K where
  r := rCat
  w := fun x y ω Φ => ∃ ds es, lstOf ω x = some ds ∧ lstOf ω y = some es ∧ ds.length + es.length ≤ sizeLine ∧ ∀ a, ω a = none → Φ (.ref a) (ω.set a (.lst (ds ++ es)))
  ok := fun z x y d e Q Φ h k r1 r2 q => by
    obtain ⟨ds, es, h1, h2, h3, h4⟩ := h
    obtain ⟨a, xs, rfl, ha, rx⟩ := lst_of k r1 h1
    obtain ⟨b, ys, rfl, hb, ry⟩ := lst_of k r2 h2
    refine ⟨a, b, xs, ys, rfl, rfl, ha, hb, by rw [rx.length, ry.length]; exact h3, fun p hp => ?_⟩
    have t := k.lay (o := .lst (xs ++ ys)) (c := .lst (ds ++ es)) hp ⟨_, upd_same, rx.append ry⟩
    exact q _ _ _ t (.ref p) (h4 p (k.free hp).2)
def oAddTup : O2 K where
  r := rCatA K
  w := fun x y ω Φ => match x, y with
    | .tup ds, .tup es => ds.length + es.length ≤ sizeLine ∧ Φ (.tup (ds ++ es)) ω
    | _, _ => False
  ok := fun z x y d e Q Φ h k r1 r2 q => by
    split at h
    · rename_i ds es
      obtain ⟨a, xs, rfl, h1, rx⟩ := rep_tup r1
      obtain ⟨b, ys, rfl, h2, ry⟩ := rep_tup r2
      refine ⟨a, b, xs, ys, rfl, rfl, k.fz.sqt h1, k.fz.sqt h2, by rw [rx.length, ry.length]; exact h.1, fun e => ?_, fun _ e => ?_, fun _ e p hp => ?_⟩
      · subst e; cases rx
        exact q _ z _ k.to (.tup h2 ry) h.2
      · subst e; cases ry
        refine q _ z _ k.to (.tup h1 rx) ?_
        have := h.2
        simpa using this
      · have t := k.add (o := .tup (xs ++ ys)) hp
        exact q _ _ _ t (.tup (SqT.of upd_same) ((rx.append ry).mono t.ex)) h.2
    · exact h.elim
def addW (x y : D) (ω : Om) (Φ : D → Om → Prop) : Prop := match x, y with
  | .int i, .int j => Φ (.int (i + j)) ω
  | .str s, .str t => s.length + t.length ≤ sizeLine ∧ Φ (.str (s ++ t)) ω
  | .tup ds, .tup es => ds.length + es.length ≤ sizeLine ∧ Φ (.tup (ds ++ es)) ω
  | x, y => ∃ ds es, lstOf ω x = some ds ∧ lstOf ω y = some es ∧ ds.length + es.length ≤ sizeLine ∧ Φ (.lst (ds ++ es)) ω
def oAdd : O2 K := ((oI0 (fun i j => .int (i + j)) (fun i j => .int (i + j)) (fun _ _ _ => .int _)).or (oAddStr.or (oAddTup.or oAddLst (fun x y ω Φ => oAddTup (K := K).w x y ω Φ ∨ oAddLst (K := K).w x y ω Φ) fun _ _ _ _ h => h)
  (fun x y ω Φ => oAddStr (K := K).w x y ω Φ ∨ (oAddTup (K := K).w x y ω Φ ∨ oAddLst (K := K).w x y ω Φ)) fun _ _ _ _ h => h) addW (by
    intro d e ω Φ h
    unfold addW at h
    split at h
    · exact .inl h
    · exact .inr (.inl h)
    · exact .inr (.inr (.inl h))
    · exact .inr (.inr (.inr h))))
def addWO (x y : D) (ω : Om) (Φ : D → Om → Prop) : Prop := ∃ ds es, lstOf ω x = some ds ∧ lstOf ω y = some es ∧ ds.length + es.length ≤ sizeLine ∧ ∀ a, ω a = none → Φ (.ref a) (ω.set a (.lst (ds ++ es)))
def oAddO : O2 K := ((oI0 (fun i j => .int (i + j)) (fun i j => .int (i + j)) (fun _ _ _ => .int _)).or (oAddStr.or (oAddTup.or oAddLstO (fun x y ω Φ => oAddTup (K := K).w x y ω Φ ∨ oAddLstO (K := K).w x y ω Φ) fun _ _ _ _ h => h)
  (fun x y ω Φ => oAddStr (K := K).w x y ω Φ ∨ (oAddTup (K := K).w x y ω Φ ∨ oAddLstO (K := K).w x y ω Φ)) fun _ _ _ _ h => h) addWO (fun _ _ _ _ h => .inr (.inr (.inr h))))
theorem op_oAdd {X : Cx} : OpR X (binaryOp .Add) (oAdd (K := X.K)).r := op_add.or (op_add_str.or (op_catA.or op_cat))
def oSub : O2 K := oI0 (fun i j => .int (i - j)) (fun i j => .int (i - j)) fun _ _ _ => .int _
theorem op_oSub {X : Cx} : OpR X (binaryOp .Sub) (oSub (K := X.K)).r := op_sub
def rMulStr : R2 := fun x y H Q => ∃ (s : Str) (n : Int), x = .str s ∧ y = .int n ∧ n ≤ 100000 ∧ -100000 ≤ n ∧ s.length ≤ 100 ∧ Q (.str ⟨((List.replicate n.toNat (cs s)).flatten).toArray⟩) H
theorem foldl_arr (l : List Nat) : ∀ (m : Nat) (acc : Array Nat), (List.replicate m l.toArray).foldl (· ++ ·) acc = acc ++ ((List.replicate m l).flatten).toArray
  | 0, acc => by simp
  | m + 1, acc => by
    rw [List.replicate_succ, List.foldl_cons, foldl_arr l m, List.replicate_succ, List.flatten_cons]
    simp
theorem flat_len {α : Type} (l : List α) : ∀ m : Nat, ((List.replicate m l).flatten).length = m * l.length
  | 0 => by simp
  | m + 1 => by rw [List.replicate_succ, List.flatten_cons, List.length_append, flat_len l m, Nat.succ_mul]; omega
theorem op_mulStr {X : Cx} : OpR X (binaryOp .Mult) rMulStr := by
  intro pins s σ H x y v u Q I rx ry h
  obtain ⟨z, n, rfl, rfl, h1, h2, h3, q⟩ := h
  obtain ⟨t, rfl⟩ := rx
  obtain ⟨t', rfl⟩ := ry
  have hz : ∀ m : Nat, m ≤ 100000 → z.length * m ≤ 10000000 := fun m hm => Nat.le_trans (Nat.mul_le_mul h3 hm) (by decide)
  have hm : n.toNat ≤ 100000 := by omega
  have hfl : ((List.replicate n.toNat (cs z)).flatten).length ≤ 10000000 := by
    rw [flat_len, Nat.mul_comm]
    exact hz _ hm
  refine PySem.P.mul_str ?_ ?_ ?_ ?_
  · rw [decide_eq_false (by omega), decide_eq_false (by omega)]; rfl
  · intro a1 a2 a3
    have : (z.length : Int) ≤ 100 := by omega
    have hn : 0 < n := by omega
    have : (100 : Int) ≤ (2 ^ 63 - 1) / n := by
      rw [Int.le_ediv_iff_mul_le hn]
      omega
    omega
  · intro a1 a2
    have hz := hz n.toNat hm
    unfold PySem.Builtin.Str.tooLong
    exact decide_eq_false (by have : (sizeLine : Nat) = 16777216 := sizeLine_eq; omega)
  · by_cases c : n < 1
    · rw [if_pos c]
      have e0 : n.toNat = 0 := by omega
      rw [e0] at q
      refine ⟨by decide, ?_⟩
      exact ⟨.str Str.empty, H, I.tok _, ⟨_, rfl⟩, q⟩
    · rw [if_neg c]
      by_cases c2 : (n == 1 || z.length == 0) = true
      · rw [if_pos c2]
        refine ⟨.str z, H, I, ⟨_, rfl⟩, ?_⟩
        rw [Bool.or_eq_true] at c2
        rcases c2 with c2 | c2
        · have : n.toNat = 1 := by have := eq_of_beq c2; omega
          rw [this] at q
          simpa using q
        · have : z.cps.size = 0 := eq_of_beq c2
          have e : cs z = [] := by
            apply List.eq_nil_of_length_eq_zero
            simpa using this
          rw [e] at q
          have e3 : (List.replicate n.toNat ([] : List Nat)).flatten = [] := by
            apply List.eq_nil_of_length_eq_zero
            rw [flat_len]; rfl
          rw [e3] at q
          have : z = ⟨#[]⟩ := by rw [← sOf_cs z, e]
          rw [this]
          exact q
      · rw [if_neg c2]
        have e : z.cps = (cs z).toArray := by simp
        have e2 : (List.replicate n.toNat z.cps).foldl (· ++ ·) #[] = ((List.replicate n.toNat (cs z)).flatten).toArray := by
          rw [e, foldl_arr]; simp
        have hl : ((List.replicate n.toNat z.cps).foldl (· ++ ·) #[]).size ≤ sizeLine := by
          rw [e2, List.size_toArray]
          exact Nat.le_trans hfl (by decide)
        refine ⟨hl, ?_⟩
        rw [e2]
        exact ⟨.str _, H, I.tok _, ⟨_, rfl⟩, q⟩
def oMulStr : O2 K where
  r := rMulStr
  w := fun x y ω Φ => match x, y with
    | .str s, .int n => n ≤ 100000 ∧ -100000 ≤ n ∧ s.length ≤ 100 ∧ Φ (.str (List.replicate n.toNat s).flatten) ω
    | _, _ => False
  ok := fun z x y d e Q Φ h k r1 r2 q => by
    split at h
    · cases r1; cases r2
      refine ⟨_, _, rfl, rfl, h.1, h.2.1, by rw [sOf_len]; exact h.2.2.1, q _ z _ k.to ?_ h.2.2.2⟩
      simp only [cs, List.toList_toArray]
      exact .str _
    · exact h.elim
def CMulA (i j : Int) : Prop := CMul i j ∨ CMulX i j
theorem op_mulA {X : Cx} : OpR X (binaryOp .Mult) (rI CMulA fun i j => .int (i * j)) := by
  intro pins s σ H x y v u Q I rx ry h
  obtain ⟨i, j, e1, e2, c, q⟩ := h
  rcases c with c | c
  · exact op_mul pins s σ H x y v u Q I rx ry ⟨i, j, e1, e2, c, q⟩
  · exact op_mulX pins s σ H x y v u Q I rx ry ⟨i, j, e1, e2, c, q⟩
def oMulLst (own : Bool) : O2 K where
  r := rRep
  w := fun x y ω Φ => match y with
    | .int n => ∃ ds, lstOf ω x = some ds ∧ -100000 ≤ n ∧ n ≤ 100000 ∧ ds.length ≤ 100 ∧ (if own = true then ∀ a, ω a = none → Φ (.ref a) (ω.set a (.lst (List.replicate n.toNat ds).flatten)) else Φ (.lst (List.replicate n.toNat ds).flatten) ω)
    | _ => False
  ok := fun z x y d e Q Φ h k r1 r2 q => by
    split at h
    · rename_i n
      obtain ⟨ds, h1, h2, h3, h4, h5⟩ := h
      obtain ⟨a, xs, rfl, ha, rx⟩ := lst_of k r1 h1
      cases r2
      have rr : ∀ m : Nat, RepL K z.d (List.replicate m xs).flatten (List.replicate m ds).flatten := fun m => by
        induction m with
        | zero => exact .nil
        | succ m ih =>
          rw [List.replicate_succ, List.flatten_cons, List.replicate_succ, List.flatten_cons]
          exact rx.append ih
      refine ⟨a, n, xs, rfl, rfl, ha, by omega, by omega, ?_, fun p hp => ?_⟩
      · have : xs.length * n.toNat ≤ 100 * 100000 := Nat.mul_le_mul (by rw [rx.length]; exact h4) (by omega)
        exact Nat.le_trans this (by decide)
      · cases own with
        | true =>
          have t := k.lay (o := .lst (List.replicate n.toNat xs).flatten) (c := .lst (List.replicate n.toNat ds).flatten) hp ⟨_, upd_same, rr _⟩
          exact q _ _ _ t (.ref p) (h5 p (k.free hp).2)
        | false =>
          have t := k.add (o := .lst (List.replicate n.toNat xs).flatten) hp
          exact q _ _ _ t (.lst upd_same ((rr _).mono t.ex)) h5
    · exact h.elim
def mulW (x y : D) (ω : Om) (Φ : D → Om → Prop) : Prop := match x, y with
  | .int i, .int j => CMulA i j ∧ Φ (.int (i * j)) ω
  | .str s, .int n => n ≤ 100000 ∧ -100000 ≤ n ∧ s.length ≤ 100 ∧ Φ (.str (List.replicate n.toNat s).flatten) ω
  | _, _ => False
def oMul : O2 K := (oI CMulA (fun i j => .int (i * j)) (fun i j => .int (i * j)) (fun _ _ _ => .int _)).or oMulStr mulW (by
  intro d e ω Φ h
  unfold mulW at h
  split at h
  · exact .inl h
  · exact .inr h
  · exact h.elim)
theorem op_oMul {X : Cx} : OpR X (binaryOp .Mult) (oMul (K := X.K)).r := op_mulA.or op_mulStr
def CDivA (i j : Int) : Prop := 0 < j ∧ (j < 1073741824 ∨ j.natAbs.log2 < 9000)
theorem op_divA {X : Cx} : OpR X (binaryOp .FloorDiv) (rI CDivA fun i j => .int (i / j)) := by
  intro pins s σ H x y v u Q I rx ry h
  obtain ⟨i, j, e1, e2, ⟨c1, c | c⟩, q⟩ := h
  · exact op_fdiv pins s σ H x y v u Q I rx ry ⟨i, j, e1, e2, ⟨c1, c⟩, q⟩
  · exact op_fdivW pins s σ H x y v u Q I rx ry ⟨i, j, e1, e2, ⟨c1, c⟩, q⟩
def oDiv : O2 K := oI CDivA (fun i j => .int (i / j)) (fun i j => .int (i / j)) fun _ _ _ => .int _
theorem op_oDiv {X : Cx} : OpR X (binaryOp .FloorDiv) (oDiv (K := X.K)).r := op_divA
def oMod : O2 K := oI (fun _ j => 0 < j) (fun i j => .int (i % j)) (fun i j => .int (i % j)) fun _ _ _ => .int _
theorem op_oMod {X : Cx} : OpR X (binaryOp .Mod) (oMod (K := X.K)).r := op_mod
def oPow : O2 K := oI CPow (fun i j => .int (i ^ j.toNat)) (fun i j => .int (i ^ j.toNat)) fun _ _ _ => .int _
theorem op_oPow {X : Cx} : OpR X (binaryOp .Pow) (oPow (K := X.K)).r := op_pow
def CShA (i j : Int) : Prop := CPow i j ∨ CShl i j
theorem op_shlA {X : Cx} : OpR X (binaryOp .LShift) (rI CShA fun i j => .int (i * 2 ^ j.toNat)) := by
  intro pins s σ H x y v u Q I rx ry h
  obtain ⟨i, j, e1, e2, c | c, q⟩ := h
  · exact op_shl pins s σ H x y v u Q I rx ry ⟨i, j, e1, e2, c, q⟩
  · exact op_shlW pins s σ H x y v u Q I rx ry ⟨i, j, e1, e2, c, q⟩
def oShl : O2 K := oI CShA (fun i j => .int (i * 2 ^ j.toNat)) (fun i j => .int (i * 2 ^ j.toNat)) fun _ _ _ => .int _
theorem op_oShl {X : Cx} : OpR X (binaryOp .LShift) (oShl (K := X.K)).r := op_shlA
def oShr : O2 K := oI (fun _ j => 0 ≤ j) (fun i j => .int (i / 2 ^ j.toNat)) (fun i j => .int (i / 2 ^ j.toNat)) fun _ _ _ => .int _
theorem op_oShr {X : Cx} : OpR X (binaryOp .RShift) (oShr (K := X.K)).r := op_shr
def oAnd : O2 K := oI0 (fun i j => .int (PySem.Builtin.bitAnd i j)) (fun i j => .int (PySem.Builtin.bitAnd i j)) fun _ _ _ => .int _
theorem op_oAnd {X : Cx} : OpR X (binaryOp .BitAnd) (oAnd (K := X.K)).r := op_and
def oOr : O2 K := oI0 (fun i j => .int (PySem.Builtin.bitOr i j)) (fun i j => .int (PySem.Builtin.bitOr i j)) fun _ _ _ => .int _
theorem op_oOr {X : Cx} : OpR X (binaryOp .BitOr) (oOr (K := X.K)).r := op_or
def oXor : O2 K := oI0 (fun i j => .int (PySem.Builtin.bitXor i j)) (fun i j => .int (PySem.Builtin.bitXor i j)) fun _ _ _ => .int _
def bNeg (a : BE K) : BE K where
  t := fun W => tUn (rU fun i => .int (-i)) (a.t W)
  w := fun ρ ω Φ Ψ => a.w ρ ω (fun x ω1 => match x with
    | .int i => Φ (.int (-i)) ω1
    | _ => False) Ψ
  ok := fun W ρ z σ Q Φ Ψ h k r q qx => by
    refine a.ok W ρ z σ _ _ Ψ h k r (fun x z1 d t1 r1 h1 => ?_) qx
    split at h1
    · cases r1
      exact ⟨_, rfl, q _ z1 _ t1 (.int _) h1⟩
    · exact h1.elim
def cmpW (f : Int → Int → Bool) (g : List Nat → List Nat → Bool) (x y : D) (ω : Om) (Φ : D → Om → Prop) : Prop := match x, y with
  | .int i, .int j => Φ (.bl (f i j)) ω
  | .str s, .str t => Φ (.bl (g s t)) ω
  | _, _ => False
def oCmpS (g : List Nat → List Nat → Bool) : O2 K where
  r := fun x y H Q => ∃ i j, x = .str i ∧ y = .str j ∧ Q (.bl (g i.cps.toList j.cps.toList)) H
  w := fun x y ω Φ => match x, y with
    | .str s, .str t => Φ (.bl (g s t)) ω
    | _, _ => False
  ok := fun z x y d e Q Φ h k r1 r2 q => by
    split at h
    · cases r1; cases r2
      exact ⟨_, _, rfl, rfl, q _ z _ k.to (.bl _) h⟩
    · exact h.elim
def oCmp (f : Int → Int → Bool) (g : List Nat → List Nat → Bool) : O2 K := (oI0 (fun i j => .bl (f i j)) (fun i j => .bl (f i j)) (fun _ _ _ => .bl _)).or (oCmpS g) (cmpW f g) (by
  intro d e ω Φ h
  unfold cmpW at h
  split at h
  · exact .inl h
  · exact .inr h
  · exact h.elim)
def ltS (s t : List Nat) : Bool := decide (s < t)
def oLt : O2 K := oCmp (fun i j => decide (i < j)) ltS
def oLe : O2 K := oCmp (fun i j => decide (i ≤ j)) fun s t => !ltS t s
def oGt : O2 K := oCmp (fun i j => decide (j < i)) fun s t => ltS t s
def oGe : O2 K := oCmp (fun i j => decide (j ≤ i)) fun s t => !ltS s t
theorem op_oLt {X : Cx} : OpR X (compareOp .Lt) (oLt (K := X.K)).r := op_lt.or op_lt_str
theorem op_oLe {X : Cx} : OpR X (compareOp .LtE) (oLe (K := X.K)).r := op_le.or op_le_str
theorem op_oGt {X : Cx} : OpR X (compareOp .Gt) (oGt (K := X.K)).r := op_gt.or op_gt_str
mutual
def pyW (g : Addr → Option PyData) : D → Option PyData
  | .non => some .none
  | .bl b => some (.bool b)
  | .int i => some (.int i)
  | .str s => some (.str ⟨s.toArray⟩)
  | .tup ds => (pyWL g ds).map .tuple
  | .lst ds => (pyWL g ds).map .list
  | .ref a => g a
  | .scr ns => some (.list (ns.map .int))
  | .exn .. => none
  | .clo .. => none
def pyWL (g : Addr → Option PyData) : List D → Option (List PyData)
  | [] => some []
  | d :: ds => match pyW g d, pyWL g ds with
    | some p, some ps => some (p :: ps)
    | _, _ => none
end
def pyF : Nat → Om → D → Option PyData
  | 0, _ => pyW fun _ => none
  | n + 1, ω => pyW fun a => match ω a with
    | some (.lst ds) => (ds.mapM (pyF n ω)).map .list
    | _ => none
theorem dpAll_ints {H : Hp} : ∀ ns : List Int, DpAll K H (ns.map V.int) (ns.map PyData.int)
  | [] => .nil
  | n :: ns => .cons (.int n) (dpAll_ints ns)
mutual
theorem pyW_ok {z : Z} (k : z.Ok K) {g : Addr → Option PyData} (hg : ∀ a p, g a = some p → Dp K z.h (.ref a) p) : ∀ (d : D) (v : V) (p : PyData), Rep K z.d v d → pyW g d = some p → Dp K z.h v p
  | .non, _, _, r, h => by cases r; simp [pyW] at h; subst h; exact .non
  | .bl b, _, _, r, h => by cases r; simp [pyW] at h; subst h; exact .bl _
  | .int i, _, _, r, h => by cases r; simp [pyW] at h; subst h; exact .int _
  | .str s, _, _, r, h => by cases r; simp [pyW] at h; subst h; exact .str _
  | .tup ds, v, p, r, h => by
    obtain ⟨a, xs, rfl, h1, h2⟩ := rep_tup r
    simp only [pyW] at h
    cases e : pyWL g ds with
    | none => rw [e] at h; simp at h
    | some ps =>
      rw [e] at h; simp at h; subst h
      exact .tup (k.fz.sqt h1) (pyWL_ok k hg ds xs ps h2 e)
  | .lst ds, v, p, r, h => by
    obtain ⟨a, xs, rfl, h1, h2⟩ := rep_lst r
    simp only [pyW] at h
    cases e : pyWL g ds with
    | none => rw [e] at h; simp at h
    | some ps =>
      rw [e] at h; simp at h; subst h
      exact .lst (SqL.of (k.fz _ _ h1)) (pyWL_ok k hg ds xs ps h2 e)
  | .ref a, v, p, r, h => by cases r; simp only [pyW] at h; exact hg _ _ h
  | .scr ns, v, p, r, h => by
    obtain ⟨a, rfl, h1⟩ := rep_scr r
    simp only [pyW] at h
    cases h
    exact .lst (k.fz.sql h1) (dpAll_ints ns)
  | .exn .., v, p, r, h => by simp only [pyW] at h; cases h
  | .clo .., v, p, r, h => by simp only [pyW] at h; cases h
theorem pyWL_ok {z : Z} (k : z.Ok K) {g : Addr → Option PyData} (hg : ∀ a p, g a = some p → Dp K z.h (.ref a) p) : ∀ (ds : List D) (vs : List V) (ps : List PyData), RepL K z.d vs ds → pyWL g ds = some ps → DpAll K z.h vs ps
  | [], _, _, r, h => by cases r; simp [pyWL] at h; subst h; exact .nil
  | d :: ds, _, _, r, h => by
    cases r with
    | cons r1 r2 =>
    simp only [pyWL] at h
    cases e1 : pyW g d with
    | none => rw [e1] at h; simp at h
    | some p =>
      cases e2 : pyWL g ds with
      | none => rw [e1, e2] at h; simp at h
      | some ps =>
        rw [e1, e2] at h; simp at h; subst h
        exact .cons (pyW_ok k hg d _ p r1 e1) (pyWL_ok k hg ds _ ps r2 e2)
end
theorem pyF_ok {z : Z} (k : z.Ok K) : ∀ (n : Nat) (d : D) (v : V) (p : PyData), Rep K z.d v d → pyF n z.o d = some p → Dp K z.h v p
  | 0, d, v, p, r, h => pyW_ok k (fun _ _ e => by cases e) d v p r h
  | n + 1, d, v, p, r, h => by
    refine pyW_ok k (fun a q e => ?_) d v p r h
    split at e
    · rename_i ds hc
      cases em : ds.mapM (pyF n z.o) with
      | none => rw [em] at e; simp at e
      | some qs =>
        rw [em] at e; simp at e; subst e
        obtain ⟨_, xs, h1, h2⟩ := k.cell a _ hc
        refine .lst (SqL.of h1) ?_
        clear hc h1
        induction ds generalizing xs qs with
        | nil => cases h2; simp at em; subst em; exact .nil
        | cons d ds ih =>
          cases h2 with
          | cons r1 r2 =>
          rw [List.mapM_cons] at em
          cases e1 : pyF n z.o d with
          | none => rw [e1] at em; simp at em
          | some p1 =>
            rw [e1] at em
            cases e2 : ds.mapM (pyF n z.o) with
            | none => rw [e2] at em; simp at em
            | some ps =>
              rw [e2] at em; simp at em; subst em
              exact .cons (pyF_ok k n d _ p1 r1 e1) (ih _ e2 _ r2)
    · cases e
def eqDW (neg : Bool) (x y : D) (ω : Om) (Φ : D → Om → Prop) : Prop := ∃ p q, pyF 3 ω x = some p ∧ pyF 3 ω y = some q ∧ SeqAt.shaped p = true ∧ SeqAt.shaped q = true ∧ Φ (.bl (if neg then !PyData.eqv p q else PyData.eqv p q)) ω
def oEqD : O2 K where
  r := rEqD K
  w := eqDW false
  ok := fun z x y d e Q Φ h k r1 r2 q => by
    obtain ⟨p, p', h1, h2, h3, h4, h5⟩ := h
    exact ⟨p, p', pyF_ok k _ _ _ _ r1 h1, pyF_ok k _ _ _ _ r2 h2, h3, h4, q _ z _ k.to (.bl _) h5⟩
def oNeD : O2 K where
  r := rNeD K
  w := eqDW true
  ok := fun z x y d e Q Φ h k r1 r2 q => by
    obtain ⟨p, p', h1, h2, h3, h4, h5⟩ := h
    exact ⟨p, p', pyF_ok k _ _ _ _ r1 h1, pyF_ok k _ _ _ _ r2 h2, h3, h4, q _ z _ k.to (.bl _) h5⟩
def eqSW (neg : Bool) (x y : D) (ω : Om) (Φ : D → Om → Prop) : Prop := match x, y with
  | .int i, .int j => Φ (.bl (if neg then !decide (i = j) else decide (i = j))) ω
  | .str s, .str t => Φ (.bl (if neg then !decide (s = t) else decide (s = t))) ω
  | .bl a, .bl b => Φ (.bl (if neg then !decide (a = b) else decide (a = b))) ω
  | .non, .non => Φ (.bl (!neg)) ω
  | .non, .int _ => Φ (.bl neg) ω
  | .int _, .non => Φ (.bl neg) ω
  | .non, .str _ => Φ (.bl neg) ω
  | .str _, .non => Φ (.bl neg) ω
  | .non, .bl _ => Φ (.bl neg) ω
  | .bl _, .non => Φ (.bl neg) ω
  | .int _, .str _ => Φ (.bl neg) ω
  | .str _, .int _ => Φ (.bl neg) ω
  | .bl _, .str _ => Φ (.bl neg) ω
  | .str _, .bl _ => Φ (.bl neg) ω
  | _, _ => False
theorem eqS_ok {neg : Bool} {z : Z} {x y : V} {d e : D} {Φ : D → Om → Prop} (h : eqSW neg d e z.o Φ) (r1 : Rep K z.d x d) (r2 : Rep K z.d y e) : scal x y = true ∧ Φ (.bl (if neg then !decide (x = y) else decide (x = y))) z.o := by
  unfold eqSW at h
  split at h <;> (first | (exact h.elim) | skip) <;> cases r1 <;> cases r2 <;> refine ⟨rfl, ?_⟩ <;> simpa [V.str.injEq, sOf_inj] using h
def oEqS : O2 K where
  r := rEq
  w := eqSW false
  ok := fun z x y d e Q Φ h k r1 r2 q => by
    obtain ⟨h1, h2⟩ := eqS_ok h r1 r2
    exact ⟨h1, q _ z _ k.to (.bl _) h2⟩
def oNeS : O2 K where
  r := rNe
  w := eqSW true
  ok := fun z x y d e Q Φ h k r1 r2 q => by
    obtain ⟨h1, h2⟩ := eqS_ok h r1 r2
    exact ⟨h1, q _ z _ k.to (.bl _) h2⟩
def eqW (neg : Bool) (x y : D) (ω : Om) (Φ : D → Om → Prop) : Prop := match x, y with
  | .int i, .int j => Φ (.bl (if neg then !decide (i = j) else decide (i = j))) ω
  | .str s, .str t => Φ (.bl (if neg then !decide (s = t) else decide (s = t))) ω
  | .bl a, .bl b => Φ (.bl (if neg then !decide (a = b) else decide (a = b))) ω
  | .non, .non => Φ (.bl (!neg)) ω
  | .non, .int _ => Φ (.bl neg) ω
  | .int _, .non => Φ (.bl neg) ω
  | .non, .str _ => Φ (.bl neg) ω
  | .str _, .non => Φ (.bl neg) ω
  | .non, .bl _ => Φ (.bl neg) ω
  | .bl _, .non => Φ (.bl neg) ω
  | .int _, .str _ => Φ (.bl neg) ω
  | .str _, .int _ => Φ (.bl neg) ω
  | .bl _, .str _ => Φ (.bl neg) ω
  | .str _, .bl _ => Φ (.bl neg) ω
  | x, y => eqDW neg x y ω Φ
theorem eqW_or {neg : Bool} {d e : D} {ω : Om} {Φ : D → Om → Prop} (h : eqW neg d e ω Φ) : eqSW neg d e ω Φ ∨ eqDW neg d e ω Φ := by
  unfold eqW at h
  split at h <;> first | exact .inl h | exact .inr h
def oEq : O2 K := oEqS.or oEqD (eqW false) fun _ _ _ _ h => eqW_or h
def oNe : O2 K := oNeS.or oNeD (eqW true) fun _ _ _ _ h => eqW_or h
theorem op_oEq {X : Cx} (hu : X.A.units + 64 < cLine) : OpR X (compareOp .Eq) (oEq (K := X.K)).r := op_eq.or (op_eqD hu)
theorem op_oNe {X : Cx} (hu : X.A.units + 64 < cLine) : OpR X (compareOp .NotEq) (oNe (K := X.K)).r := op_ne.or (op_neD hu)
def isW (neg : Bool) (x y : D) (ω : Om) (Φ : D → Om → Prop) : Prop := match x, y with
  | .bl a, .bl b => Φ (.bl (if neg then !decide (a = b) else decide (a = b))) ω
  | .non, .non => Φ (.bl (!neg)) ω
  | _, .non => Φ (.bl neg) ω
  | _, _ => False
def oIsN (neg : Bool) : O2 K where
  r := if neg then rNotN else rIsN
  w := fun x y ω Φ => match x, y with
    | .non, .non => Φ (.bl (!neg)) ω
    | _, .non => Φ (.bl neg) ω
    | _, _ => False
  ok := fun z x y d e Q Φ h k r1 r2 q => by
    have : y = .non ∧ Q (.bl (if neg then !decide (x = .non) else decide (x = .non))) z.h := by
      split at h
      · cases r1; cases r2
        refine ⟨rfl, ?_⟩
        have := q _ z _ k.to (.bl _) h
        cases neg <;> simpa using this
      · rename_i hn
        cases r2
        refine ⟨rfl, ?_⟩
        have hx : x ≠ .non := by
          rintro rfl
          cases r1
          exact hn rfl
        have := q _ z _ k.to (.bl _) h
        cases neg <;> simpa [hx] using this
      · exact h.elim
    cases neg
    · exact this
    · exact this
def oIsB (neg : Bool) : O2 K where
  r := if neg then rNotB else rIsB
  w := fun x y ω Φ => match x, y with
    | .bl a, .bl b => Φ (.bl (if neg then !decide (a = b) else decide (a = b))) ω
    | _, _ => False
  ok := fun z x y d e Q Φ h k r1 r2 q => by
    split at h
    · cases r1; cases r2
      have := q _ z _ k.to (.bl _) h
      cases neg
      · exact ⟨_, _, rfl, rfl, this⟩
      · exact ⟨_, _, rfl, rfl, this⟩
    · exact h.elim
def oIs (neg : Bool) : O2 K := (oIsN neg).or (oIsB neg) (isW neg) (by
  intro d e ω Φ h
  unfold isW at h
  split at h
  · exact .inr h
  · exact .inl h
  · rename_i hn
    refine .inl ?_
    cases d <;> first | exact absurd rfl hn | exact h
  · exact h.elim)
theorem op_oIs {X : Cx} : OpR X (compareOp .Is) (oIs (K := X.K) false).r := op_isN1.or op_isBl
theorem op_oIsNot {X : Cx} : OpR X (compareOp .IsNot) (oIs (K := X.K) true).r := op_notN1.or op_notBl
end
end
section
section
variable {K : Fg}
theorem atI_rep {H : Hp} {xs : List V} {ds : List D} {i : Int} {d : D} (r : RepL K H xs ds) (h : atI ds i = some d) : ∃ v, atI xs i = some v ∧ Rep K H v d := by
  unfold atI at h ⊢
  rw [r.length]
  cases e : ixN ds.length i with
  | none => rw [e] at h; cases h
  | some j =>
    rw [e] at h
    exact r.get h
theorem atI_map {α β : Type} (f : α → β) (xs : List α) (i : Int) : atI (xs.map f) i = (atI xs i).map f := by
  unfold atI
  rw [List.length_map]
  cases ixN xs.length i with
  | none => rfl
  | some j => simp
theorem atI_nn {α : Type} {xs : List α} {i : Int} (h : 0 ≤ i) : atI xs i = xs[i.toNat]? := by
  unfold atI ixN
  rw [if_pos h]
  split
  · rfl
  · rename_i c
    rw [List.getElem?_eq_none (by omega)]; rfl
def ixW (x y : D) (ω : Om) (Φ : D → Om → Prop) : Prop := match x, y with
  | .str s, .int i => s.length ≤ sizeLine ∧ ∃ c, atI s i = some c ∧ Φ (.str [c]) ω
  | .tup ds, .int i => ∃ d, atI ds i = some d ∧ Φ d ω
  | .scr ns, .int i => ∃ n, atI ns i = some n ∧ Φ (.int n) ω
  | x, .int i => ∃ ds d, lstOf ω x = some ds ∧ atI ds i = some d ∧ Φ d ω
  | _, _ => False
def oIx : O2 K where
  r := rIx K
  w := ixW
  ok := fun z x y d e Q Φ h k r1 r2 q => by
    unfold ixW at h
    split at h
    · obtain ⟨h1, c, h2, h3⟩ := h
      cases r1; cases r2
      exact .inr (.inr ⟨_, _, c, rfl, rfl, by rw [sOf_len]; exact h1, by simpa using h2, q _ z _ k.to (.str [c]) h3⟩)
    · obtain ⟨d, h1, h2⟩ := h
      obtain ⟨a, xs, rfl, ha, rx⟩ := rep_tup r1
      cases r2
      obtain ⟨v, e1, e2⟩ := atI_rep rx h1
      exact .inr (.inl ⟨a, xs, _, v, rfl, rfl, k.fz.sqt ha, e1, q _ z _ k.to e2 h2⟩)
    · obtain ⟨n, h1, h2⟩ := h
      obtain ⟨a, rfl, ha⟩ := rep_scr r1
      cases r2
      exact .inl ⟨a, _, _, .int n, rfl, rfl, k.fz.sql ha, by rw [atI_map, h1]; rfl, q _ z _ k.to (.int n) h2⟩
    · obtain ⟨ds, d, h0, h1, h2⟩ := h
      obtain ⟨a, xs, rfl, ha, rx⟩ := lst_of k r1 h0
      cases r2
      obtain ⟨v, e1, e2⟩ := atI_rep rx h1
      exact .inl ⟨a, xs, _, v, rfl, rfl, SqL.of ha, e1, q _ z _ k.to e2 h2⟩
    · exact h.elim
theorem ix_oIx {X : Cx} : IxR X (oIx (K := X.K)).r := ix_seq
structure BO (K : Fg) where
  t : WX → TO
  w : En → Om → (Option Int → Om → Prop) → (Exn → Om → Prop) → Prop
  ok : ∀ (W : WX) (ρ : En) (z : Z) (σ : St) (Q : Option Int → Hp → Prop) (Φ : Option Int → Om → Prop) (Ψ : Exn → Om → Prop), w ρ z.o Φ Ψ → z.Ok K → RepE K z.d σ ρ →
    (∀ o z2, To K z z2 → Φ o z2.o → Q o z2.h) → (∀ x cls d z2, To K z z2 → RepX K z2 cls d x → Ψ x z2.o → W cls d σ z2.h) → t W σ z.h Q
def boN : BO K where
  t := fun _ => tNoPart
  w := fun _ ω Φ _ => Φ none ω
  ok := fun W ρ z σ Q Φ Ψ h k r q _ => q none z k.to h
def boS (a : BE K) : BO K where
  t := fun W => tPart (a.t W)
  w := fun ρ ω Φ Ψ => a.w ρ ω (fun x ω1 => match x with
    | .int i => Φ (some i) ω1
    | _ => False) Ψ
  ok := fun W ρ z σ Q Φ Ψ h k r q qx => by
    refine a.ok W ρ z σ _ _ Ψ h k r (fun x z1 d t1 r1 h1 => ?_) qx
    split at h1
    · cases r1
      exact ⟨_, rfl, q _ z1 t1 h1⟩
    · exact h1.elim
def cut {α : Type} (xs : List α) (lo hi : Option Int) : List α := (xs.drop (HT.sIx xs.length 0 lo)).take (HT.sIx xs.length xs.length hi - HT.sIx xs.length 0 lo)
theorem cut_rep {H : Hp} {xs : List V} {ds : List D} (r : RepL K H xs ds) (lo hi : Option Int) : RepL K H (cutV xs lo hi) (cut ds lo hi) := by
  unfold cutV cut
  rw [r.length]
  exact (r.drop _).take _
structure O3 (K : Fg) where
  r : V → Option Int → Option Int → Hp → VK → Prop
  w : D → Option Int → Option Int → Om → (D → Om → Prop) → Prop
  ok : ∀ (z : Z) (x : V) (d : D) (lo hi : Option Int) (Q : VK) (Φ : D → Om → Prop), w d lo hi z.o Φ → z.Ok K → Rep K z.d x d → (∀ v z2 c, To K z z2 → Rep K z2.d v c → Φ c z2.o → Q v z2.h) → r x lo hi z.h Q
def bSl (o : O3 K) (a : BE K) (lo hi : BO K) : BE K where
  t := fun W => tSl o.r (a.t W) (lo.t W) (hi.t W)
  w := fun ρ ω Φ Ψ => a.w ρ ω (fun x ω1 => lo.w ρ ω1 (fun i ω2 => hi.w ρ ω2 (fun j ω3 => o.w x i j ω3 Φ) Ψ) Ψ) Ψ
  ok := fun W ρ z σ Q Φ Ψ h k r q qx => by
    refine a.ok W ρ z σ _ _ Ψ h k r (fun x z1 d t1 r1 h1 => ?_) qx
    refine lo.ok W ρ z1 σ _ _ Ψ h1 t1.ok (r.mono t1.ex) (fun i z2 t2 h2 => ?_) fun x cls d z2 t2 => qx x cls d z2 (t1.trans t2)
    refine hi.ok W ρ z2 σ _ _ Ψ h2 t2.ok (r.mono (t1.trans t2).ex) (fun j z3 t3 h3 => ?_) fun x cls d z3 t3 => qx x cls d z3 ((t1.trans t2).trans t3)
    exact o.ok z3 x d i j Q Φ h3 t3.ok (r1.mono (t2.trans t3).ex) fun v z4 c t4 => q v z4 c (((t1.trans t2).trans t3).trans t4)
theorem sl_or {X : Cx} {r r' : V → Option Int → Option Int → Hp → VK → Prop} (h : SlR X r) (h' : SlR X r') : SlR X (fun x lo hi H Q => r x lo hi H Q ∨ r' x lo hi H Q) := by
  intro pins s σ H x v vl vu lo hi sl Q I rx hs pl pu q
  rcases q with q | q
  · exact h pins s σ H x v vl vu lo hi sl Q I rx hs pl pu q
  · exact h' pins s σ H x v vl vu lo hi sl Q I rx hs pl pu q
def slW (own : Bool) (x : D) (lo hi : Option Int) (ω : Om) (Φ : D → Om → Prop) : Prop := match x with
  | .str s => s.length ≤ sizeLine ∧ Φ (.str (cut s lo hi)) ω
  | .tup ds => Φ (.tup (cut ds lo hi)) ω
  | .scr ns => Φ (.lst ((cut ns lo hi).map .int)) ω
  | x => ∃ ds, lstOf ω x = some ds ∧ if own = true then ∀ a, ω a = none → Φ (.ref a) (ω.set a (.lst (cut ds lo hi))) else Φ (.lst (cut ds lo hi)) ω
theorem cut_whole {α : Type} {xs : List α} {lo hi : Option Int} (h : HT.sIx xs.length 0 lo = 0 ∧ HT.sIx xs.length xs.length hi = xs.length) : cut xs lo hi = xs := by
  unfold cut
  rw [h.1, h.2]
  simp
theorem cut_map {α β : Type} (f : α → β) (xs : List α) (lo hi : Option Int) : cut (xs.map f) lo hi = (cut xs lo hi).map f := by
  unfold cut
  simp [List.map_drop, List.map_take]
def oSl (own : Bool) : O3 K where
  r := fun x lo hi H Q => rSlS x lo hi H Q ∨ (rSlA K x lo hi H Q ∨ rSlL K x lo hi H Q)
  w := slW own
  ok := fun z x d lo hi Q Φ h k r q => by
    unfold slW at h
    split at h
    · cases r
      refine .inl ⟨_, rfl, by rw [sOf_len]; exact h.1, q _ z _ k.to ?_ h.2⟩
      unfold cutS
      rw [sOf_len]
      simp only [List.toList_toArray]
      exact .str _
    · rename_i ds
      obtain ⟨a, xs, rfl, ha, rx⟩ := rep_tup r
      refine .inr (.inl ⟨a, xs, rfl, k.fz.sqt ha, fun c => ?_, fun c p hp => ?_⟩)
      · rw [rx.length] at c
        rw [cut_whole c] at h
        exact q _ z _ k.to (.tup ha rx) h
      · have t := k.add (o := .tup (cutV xs lo hi)) hp
        exact q _ _ _ t (.tup (SqT.of upd_same) ((cut_rep rx lo hi).mono t.ex)) h
    · rename_i ns
      obtain ⟨a, rfl, ha⟩ := rep_scr r
      refine .inr (.inr ⟨a, _, rfl, k.fz.sql ha, fun p hp => ?_⟩)
      have t := k.add (o := .lst (cutV (ns.map V.int) lo hi)) hp
      refine q _ _ _ t (.lst upd_same ?_) h
      have := cut_rep (K := K) (H := upd z.d p (HO.lst (cutV (List.map V.int ns) lo hi))) (RepL.of_ints ns) lo hi
      rw [cut_map] at this
      exact this
    · obtain ⟨ds, h1, h2⟩ := h
      obtain ⟨a, xs, rfl, ha, rx⟩ := lst_of k r h1
      refine .inr (.inr ⟨a, xs, rfl, SqL.of ha, fun p hp => ?_⟩)
      cases own with
      | true =>
        have t := k.lay (o := .lst (cutV xs lo hi)) (c := .lst (cut ds lo hi)) hp ⟨_, upd_same, cut_rep rx lo hi⟩
        exact q _ _ _ t (.ref p) (h2 p (k.free hp).2)
      | false =>
        have t := k.add (o := .lst (cutV xs lo hi)) hp
        exact q _ _ _ t (.lst upd_same ((cut_rep rx lo hi).mono t.ex)) h2
theorem sl_oSl {X : Cx} {b : Bool} : SlR X (oSl (K := X.K) b).r := sl_or sl_str (sl_or sl_tupA sl_list)
def flatD : D → Bool
  | .non => true
  | .bl _ => true
  | .int _ => true
  | .str _ => true
  | _ => false
def eqF : D → D → Bool
  | .non, .non => true
  | .bl a, .bl b => a == b
  | .bl a, .int b => (if a then 1 else 0) == b
  | .int a, .bl b => a == (if b then 1 else 0)
  | .int a, .int b => decide (a = b)
  | .str a, .str b => decide (a = b)
  | _, _ => false
theorem flat_rep {H : Hp} {v : V} {d : D} (r : Rep K H v d) (h : flatD d = true) : flatV v = true := by
  cases r <;> first | rfl | cases h
theorem eqF_rep {H : Hp} {v w : V} {d e : D} (r : Rep K H v d) (s : Rep K H w e) (h : flatD d = true) (g : flatD e = true) : eqV v w = eqF d e := by
  cases r <;> (first | cases h | skip) <;> cases s <;> (first | cases g | skip) <;> simp only [eqV, eqF] <;> (first | rfl | (rw [Bool.eq_iff_iff]; simp [sOf_inj]) | skip)
theorem any_rep {H : Hp} {v : V} {d : D} (r : Rep K H v d) (h : flatD d = true) : ∀ {xs : List V} {ds : List D}, RepL K H xs ds → ds.all flatD = true → xs.all flatV = true ∧ inV v xs = ds.any fun e => eqF e d
  | _, _, .nil, _ => ⟨rfl, rfl⟩
  | x :: xs, e :: ds, .cons s t, f => by
    rw [List.all_cons, Bool.and_eq_true] at f
    obtain ⟨h1, h2⟩ := any_rep r h t f.2
    refine ⟨by rw [List.all_cons, flat_rep s f.1, h1]; rfl, ?_⟩
    unfold inV at h2 ⊢
    rw [List.any_cons, List.any_cons, eqF_rep s r f.1 h, h2]
def inW (neg : Bool) (x y : D) (ω : Om) (Φ : D → Om → Prop) : Prop := match x, y with
  | .str s, .str t => ∃ c, s = [c] ∧ Φ (.bl (if neg then !decide (c ∈ t) else decide (c ∈ t))) ω
  | x, .tup ds => flatD x = true ∧ ds.all flatD = true ∧ Φ (.bl (if neg then !ds.any fun e => eqF e x else ds.any fun e => eqF e x)) ω
  | x, y => ∃ ds, lstOf ω y = some ds ∧ flatD x = true ∧ ds.all flatD = true ∧ Φ (.bl (if neg then !ds.any fun e => eqF e x else ds.any fun e => eqF e x)) ω
def oIn (neg : Bool) : O2 K where
  r := fun x y H Q => (∃ (c : Nat) (z : Str), x = .str ⟨#[c]⟩ ∧ y = .str z ∧ Q (.bl (if neg then !decide (c ∈ z.cps.toList) else decide (c ∈ z.cps.toList))) H) ∨ rIn K neg x y H Q
  w := inW neg
  ok := fun z x y d e Q Φ h k r1 r2 q => by
    unfold inW at h
    split at h
    · obtain ⟨c, rfl, h⟩ := h
      cases r1; cases r2
      exact .inl ⟨c, _, rfl, rfl, q _ z _ k.to (.bl _) (by simpa using h)⟩
    · obtain ⟨h1, h2, h3⟩ := h
      obtain ⟨a, xs, rfl, ha, rx⟩ := rep_tup r2
      obtain ⟨g1, g2⟩ := any_rep r1 h1 rx h2
      refine .inr ⟨a, xs, rfl, .inr (k.fz.sqt ha), flat_rep r1 h1, g1, ?_⟩
      rw [g2]
      exact q _ z _ k.to (.bl _) h3
    · obtain ⟨ds, h0, h1, h2, h3⟩ := h
      obtain ⟨a, xs, rfl, ha, rx⟩ := lst_of k r2 h0
      obtain ⟨g1, g2⟩ := any_rep r1 h1 rx h2
      refine .inr ⟨a, xs, rfl, .inl (SqL.of ha), flat_rep r1 h1, g1, ?_⟩
      rw [g2]
      exact q _ z _ k.to (.bl _) h3
theorem op_oIn {X : Cx} : OpR X (compareOp .In) (oIn (K := X.K) false).r := op_in_sign.or op_in_seq
theorem op_oNotIn {X : Cx} : OpR X (compareOp .NotIn) (oIn (K := X.K) true).r := op_notIn_sign.or op_notIn_seq
def baN : BA K where
  t := fun _ => tNil
  w := fun _ ω Φ _ => Φ [] ω
  ok := fun W ρ z σ Q Φ Ψ h k r q _ => q [] z [] k.to .nil h
def baC (a : BE K) (b : BA K) : BA K where
  t := fun W => tCons (a.t W) (b.t W)
  w := fun ρ ω Φ Ψ => a.w ρ ω (fun x ω1 => b.w ρ ω1 (fun xs ω2 => Φ (x :: xs) ω2) Ψ) Ψ
  ok := fun W ρ z σ Q Φ Ψ h k r q qx => by
    refine a.ok W ρ z σ _ _ Ψ h k r (fun x z1 d t1 r1 h1 => ?_) qx
    refine b.ok W ρ z1 σ _ _ Ψ h1 t1.ok (r.mono t1.ex) (fun xs z2 ds t2 r2 h2 => ?_) fun x cls d z2 t2 => qx x cls d z2 (t1.trans t2)
    exact q _ z2 _ (t1.trans t2) (.cons (r1.mono t2.ex) r2) h2
def bTup (a : BA K) : BE K where
  t := fun W => tTup (a.t W)
  w := fun ρ ω Φ Ψ => a.w ρ ω (fun xs ω1 => xs.length ≤ sizeLine ∧ Φ (.tup xs) ω1) Ψ
  ok := fun W ρ z σ Q Φ Ψ h k r q qx => by
    refine a.ok W ρ z σ _ _ Ψ h k r (fun xs z1 ds t1 r1 h1 => ?_) qx
    refine ⟨by rw [r1.length]; exact h1.1, fun p hp => ?_⟩
    have t := t1.ok.add (o := .tup xs) hp
    exact q _ _ _ (t1.trans t) (.tup (SqT.of upd_same) (r1.mono t.ex)) h1.2
def bLst (own : Bool) (a : BA K) : BE K where
  t := fun W => tLst (a.t W)
  w := fun ρ ω Φ Ψ => a.w ρ ω (fun xs ω1 => xs.length ≤ sizeLine ∧ if own = true then ∀ a, ω1 a = none → Φ (.ref a) (ω1.set a (.lst xs)) else Φ (.lst xs) ω1) Ψ
  ok := fun W ρ z σ Q Φ Ψ h k r q qx => by
    refine a.ok W ρ z σ _ _ Ψ h k r (fun xs z1 ds t1 r1 h1 => ?_) qx
    refine ⟨by rw [r1.length]; exact h1.1, fun p hp => ?_⟩
    cases own with
    | true =>
      have t := t1.ok.lay (o := .lst xs) (c := .lst ds) hp ⟨_, upd_same, r1⟩
      exact q _ _ _ (t1.trans t) (.ref p) (h1.2 p (t1.ok.free hp).2)
    | false =>
      have t := t1.ok.add (o := .lst xs) hp
      exact q _ _ _ (t1.trans t) (.lst upd_same (r1.mono t.ex)) h1.2
def bDnewK : BE K where
  t := fun _ => tDNewK
  w := fun _ ω Φ _ => ∀ a, ω a = none → Φ (.ref a) (ω.set a (.dk []))
  ok := fun W ρ z σ Q Φ Ψ h k r q qx => by
    intro p hp
    have t := k.lay (o := .dK []) (c := .dk []) hp ⟨_, upd_same, .nil⟩
    exact q _ _ _ t (.ref p) (h p (k.free hp).2)
def bDnewT : BE K where
  t := fun _ => tDNewT
  w := fun _ ω Φ _ => ∀ a, ω a = none → Φ (.ref a) (ω.set a (.dt []))
  ok := fun W ρ z σ Q Φ Ψ h k r q qx => by
    intro p hp
    have t := k.lay (o := .dT []) (c := .dt []) hp ⟨_, upd_same, .nil⟩
    exact q _ _ _ t (.ref p) (h p (k.free hp).2)
def bFrz (e : BE K) : BE K where
  t := e.t
  w := fun ρ ω Φ Ψ => e.w ρ ω (fun d ω1 => match d with
    | .ref a => (match ω1 a with
      | some (.lst ds) => Φ (.lst ds) (ω1.del a)
      | _ => Φ (.ref a) ω1)
    | d => Φ d ω1) Ψ
  ok := fun W ρ z σ Q Φ Ψ h k r q qx => by
    refine e.ok W ρ z σ _ _ Ψ h k r (fun v z1 d t1 r1 h1 => ?_) qx
    split at h1
    · rename_i a
      split at h1
      · rename_i ds hc
        obtain ⟨_, xs, c1, c2⟩ := t1.ok.cell a _ hc
        have t := t1.ok.freeze hc c1
        cases r1
        exact q _ ⟨upd z1.d a (.lst xs), z1.h, z1.o.del a, z1.t⟩ _ (t1.trans t) (.lst upd_same (c2.mono t.ex)) h1
      · exact q v z1 _ t1 r1 h1
    · exact q v z1 _ t1 r1 h1
def truW (x : D) (ω : Om) (Φ : Bool → Om → Prop) : Prop := match x with
  | .non => Φ false ω
  | .bl b => Φ b ω
  | .int i => Φ (i != 0) ω
  | .str s => s.length ≤ sizeLine ∧ Φ (!s.isEmpty) ω
  | .tup ds => Φ (!ds.isEmpty) ω
  | .scr ns => Φ (!ns.isEmpty) ω
  | .lst ds => Φ (!ds.isEmpty) ω
  | .ref a => match ω a with
    | some (.lst ds) => Φ (!ds.isEmpty) ω
    | some (.dk kvs) => Φ (!kvs.isEmpty) ω
    | _ => False
  | .exn .. => False
  | .clo .. => False
theorem tru_rep {z : Z} (k : z.Ok K) {v : V} {d : D} {Φ : Bool → Om → Prop} (r : Rep K z.d v d) (h : truW d z.o Φ) : ∃ b, TruV K v z.h b ∧ Φ b z.o := by
  cases r with
  | non => exact ⟨_, rfl, h⟩
  | bl b => exact ⟨_, rfl, h⟩
  | int i => exact ⟨_, rfl, h⟩
  | str s =>
    refine ⟨_, ⟨by rw [sOf_len]; exact h.1, rfl⟩, ?_⟩
    rw [sOf_len]
    have e : ((s.length : Int) != 0) = !s.isEmpty := by cases s <;> simp; omega
    rw [e]
    exact h.2
  | tup h1 h2 => exact ⟨_, .inr (.inl ⟨_, k.fz.sqt h1, rfl⟩), by rw [h2.nil_iff]; exact h⟩
  | lst h1 h2 => exact ⟨_, .inl ⟨_, SqL.of (k.fz _ _ h1), rfl⟩, by rw [h2.nil_iff]; exact h⟩
  | exn0 => exact h.elim
  | exn1 => exact h.elim
  | clo => exact h.elim
  | @scr a ns h1 =>
    refine ⟨_, .inl ⟨_, k.fz.sql h1, rfl⟩, ?_⟩
    have e : (List.map V.int ns).isEmpty = ns.isEmpty := by cases ns <;> rfl
    rw [e]; exact h
  | ref a =>
    unfold truW at h
    simp only at h
    split at h
    · rename_i ds hc
      obtain ⟨_, xs, h1, h2⟩ := k.cell a _ hc
      exact ⟨_, .inl ⟨_, SqL.of h1, rfl⟩, by rw [h2.nil_iff]; exact h⟩
    · rename_i kvs hc
      obtain ⟨_, xs, h1, h2⟩ := k.cell a _ hc
      refine ⟨_, .inr (.inr ⟨_, h1, rfl⟩), ?_⟩
      have e : xs.isEmpty = kvs.isEmpty := by cases h2 <;> rfl
      rw [e]; exact h
    · exact h.elim
def btTru (a : BE K) : BT K where
  t := fun W => fun σ H Q => a.t W σ H fun x H' => ∃ k, TruV K x H' k ∧ Q k H'
  w := fun ρ ω Φ Ψ => a.w ρ ω (fun x ω1 => truW x ω1 Φ) Ψ
  ok := fun W ρ z σ Q Φ Ψ h k r q qx => by
    refine a.ok W ρ z σ _ _ Ψ h k r (fun x z1 d t1 r1 h1 => ?_) qx
    obtain ⟨b, e1, e2⟩ := tru_rep t1.ok r1 h1
    exact ⟨b, e1, q b z1 t1 e2⟩
def btB (a : BE K) : BT K where
  t := fun W => tB (a.t W)
  w := fun ρ ω Φ Ψ => a.w ρ ω (fun x ω1 => match x with
    | .bl b => Φ b ω1
    | _ => False) Ψ
  ok := fun W ρ z σ Q Φ Ψ h k r q qx => by
    refine a.ok W ρ z σ _ _ Ψ h k r (fun x z1 d t1 r1 h1 => ?_) qx
    split at h1
    · cases r1
      exact ⟨_, rfl, q _ z1 t1 h1⟩
    · exact h1.elim
def btC (a : BE K) : BT K where
  t := fun W => tTest (a.t W)
  w := fun ρ ω Φ Ψ => a.w ρ ω (fun x ω1 => match x with
    | .bl b => Φ b ω1
    | _ => False) Ψ
  ok := fun W ρ z σ Q Φ Ψ h k r q qx => by
    refine a.ok W ρ z σ _ _ Ψ h k r (fun x z1 d t1 r1 h1 => ?_) qx
    split at h1
    · cases r1
      exact ⟨_, rfl, q _ z1 t1 h1⟩
    · exact h1.elim
def btAnd (a b : BT K) : BT K where
  t := fun W => tAnd (a.t W) (b.t W)
  w := fun ρ ω Φ Ψ => a.w ρ ω (fun c ω1 => if c = true then b.w ρ ω1 Φ Ψ else Φ false ω1) Ψ
  ok := fun W ρ z σ Q Φ Ψ h k r q qx => by
    refine a.ok W ρ z σ _ _ Ψ h k r (fun c z1 t1 h1 => ?_) qx
    cases c with
    | true => exact iteT (b.ok W ρ z1 σ _ _ Ψ h1 t1.ok (r.mono t1.ex) (fun c z2 t2 => q c z2 (t1.trans t2)) fun x cls d z2 t2 => qx x cls d z2 (t1.trans t2))
    | false => exact iteF (q false z1 t1 h1)
def btOr (a b : BT K) : BT K where
  t := fun W => tOr (a.t W) (b.t W)
  w := fun ρ ω Φ Ψ => a.w ρ ω (fun c ω1 => if c = true then Φ true ω1 else b.w ρ ω1 Φ Ψ) Ψ
  ok := fun W ρ z σ Q Φ Ψ h k r q qx => by
    refine a.ok W ρ z σ _ _ Ψ h k r (fun c z1 t1 h1 => ?_) qx
    cases c with
    | false => exact iteF (b.ok W ρ z1 σ _ _ Ψ h1 t1.ok (r.mono t1.ex) (fun c z2 t2 => q c z2 (t1.trans t2)) fun x cls d z2 t2 => qx x cls d z2 (t1.trans t2))
    | true => exact iteT (q true z1 t1 h1)
def btNot (a : BT K) : BT K where
  t := fun W => tNot (a.t W)
  w := fun ρ ω Φ Ψ => a.w ρ ω (fun c ω1 => Φ (!c) ω1) Ψ
  ok := fun W ρ z σ Q Φ Ψ h k r q qx => a.ok W ρ z σ _ _ Ψ h k r (fun c z1 t1 h1 => q _ z1 t1 h1) qx
def btYes : BT K where
  t := fun _ => tYes
  w := fun _ ω Φ _ => Φ true ω
  ok := fun W ρ z σ Q Φ Ψ h k r q _ => q true z k.to h
def bAndT (a b : BE K) : BE K where
  t := fun W => tAndT K (a.t W) (b.t W)
  w := fun ρ ω Φ Ψ => a.w ρ ω (fun x ω1 => truW x ω1 fun c ω2 => if c = true then b.w ρ ω2 Φ Ψ else Φ x ω2) Ψ
  ok := fun W ρ z σ Q Φ Ψ h k r q qx => by
    refine a.ok W ρ z σ _ _ Ψ h k r (fun x z1 d t1 r1 h1 => ?_) qx
    obtain ⟨c, e1, e2⟩ := tru_rep t1.ok r1 h1
    refine ⟨c, e1, ?_⟩
    cases c with
    | true => exact iteT (b.ok W ρ z1 σ _ _ Ψ e2 t1.ok (r.mono t1.ex) (fun v z2 d t2 => q v z2 d (t1.trans t2)) fun x cls d z2 t2 => qx x cls d z2 (t1.trans t2))
    | false => exact iteF (q x z1 d t1 r1 e2)
def bOrT (a b : BE K) : BE K where
  t := fun W => tOrT K (a.t W) (b.t W)
  w := fun ρ ω Φ Ψ => a.w ρ ω (fun x ω1 => truW x ω1 fun c ω2 => if c = true then Φ x ω2 else b.w ρ ω2 Φ Ψ) Ψ
  ok := fun W ρ z σ Q Φ Ψ h k r q qx => by
    refine a.ok W ρ z σ _ _ Ψ h k r (fun x z1 d t1 r1 h1 => ?_) qx
    obtain ⟨c, e1, e2⟩ := tru_rep t1.ok r1 h1
    refine ⟨c, e1, ?_⟩
    cases c with
    | false => exact iteF (b.ok W ρ z1 σ _ _ Ψ e2 t1.ok (r.mono t1.ex) (fun v z2 d t2 => q v z2 d (t1.trans t2)) fun x cls d z2 t2 => qx x cls d z2 (t1.trans t2))
    | true => exact iteT (q x z1 d t1 r1 e2)
def bNotT (a : BE K) : BE K where
  t := fun W => tNotT K (a.t W)
  w := fun ρ ω Φ Ψ => a.w ρ ω (fun x ω1 => truW x ω1 fun c ω2 => Φ (.bl (!c)) ω2) Ψ
  ok := fun W ρ z σ Q Φ Ψ h k r q qx => by
    refine a.ok W ρ z σ _ _ Ψ h k r (fun x z1 d t1 r1 h1 => ?_) qx
    obtain ⟨c, e1, e2⟩ := tru_rep t1.ok r1 h1
    exact ⟨c, e1, q _ z1 _ t1 (.bl _) e2⟩
def bIf (c : BT K) (a b : BE K) : BE K where
  t := fun W => tIf (c.t W) (a.t W) (b.t W)
  w := fun ρ ω Φ Ψ => c.w ρ ω (fun x ω1 => if x = true then a.w ρ ω1 Φ Ψ else b.w ρ ω1 Φ Ψ) Ψ
  ok := fun W ρ z σ Q Φ Ψ h k r q qx => by
    refine c.ok W ρ z σ _ _ Ψ h k r (fun x z1 t1 h1 => ?_) qx
    cases x with
    | true => exact iteT (a.ok W ρ z1 σ _ _ Ψ h1 t1.ok (r.mono t1.ex) (fun v z2 d t2 => q v z2 d (t1.trans t2)) fun x cls d z2 t2 => qx x cls d z2 (t1.trans t2))
    | false => exact iteF (b.ok W ρ z1 σ _ _ Ψ h1 t1.ok (r.mono t1.ex) (fun v z2 d t2 => q v z2 d (t1.trans t2)) fun x cls d z2 t2 => qx x cls d z2 (t1.trans t2))
def blW (d : D) (F : Bool → Prop) : Prop := match d with
  | .bl b => F b
  | _ => False
theorem blW_rep {H : Hp} {v : V} {d : D} {F : Bool → Prop} (h : blW d F) (r : Rep K H v d) : ∃ b, v = .bl b ∧ F b := by
  cases r <;> first | exact ⟨_, rfl, h⟩ | exact h.elim
def bChain (o p : O2 K) (a b c : BE K) : BE K where
  t := fun W => tChain o.r p.r (a.t W) (b.t W) (c.t W)
  w := fun ρ ω Φ Ψ => a.w ρ ω (fun x ω1 => b.w ρ ω1 (fun y ω2 => o.w x y ω2 fun r ω3 => blW r fun k => if k = true then c.w ρ ω3 (fun z ω4 => p.w y z ω4 Φ) Ψ else Φ (.bl false) ω3) Ψ) Ψ
  ok := fun W ρ z σ Q Φ Ψ h k r q qx => by
    refine a.ok W ρ z σ _ _ Ψ h k r (fun x z1 d t1 r1 h1 => ?_) qx
    refine b.ok W ρ z1 σ _ _ Ψ h1 t1.ok (r.mono t1.ex) (fun y z2 e t2 r2 h2 => ?_) fun x cls d z2 t2 => qx x cls d z2 (t1.trans t2)
    refine o.ok z2 x y d e _ _ h2 t2.ok (r1.mono t2.ex) r2 fun v z3 g t3 r3 h3 => ?_
    obtain ⟨kb, rfl, h3⟩ := blW_rep h3 r3
    refine ⟨kb, rfl, ?_⟩
    cases kb with
    | true =>
      refine iteT ?_
      have t13 := (t1.trans t2).trans t3
      refine c.ok W ρ z3 σ _ _ Ψ h3 t3.ok (r.mono t13.ex) (fun y' z4 e' t4 r4 h4 => ?_) fun x cls d z2 t2 => qx x cls d z2 (t13.trans t2)
      exact p.ok z4 y y' e e' Q Φ h4 t4.ok (r2.mono (t3.trans t4).ex) r4 fun v z5 g t5 => q v z5 g ((t13.trans t4).trans t5)
    | false => exact iteF (q _ z3 _ ((t1.trans t2).trans t3) (.bl _) h3)
structure CB (K : Fg) where
  r : List V → Hp → VK → Prop
  w : List D → Om → (D → Om → Prop) → Prop
  ok : ∀ (z : Z) (xs : List V) (ds : List D) (Q : VK) (Φ : D → Om → Prop), w ds z.o Φ → z.Ok K → RepL K z.d xs ds → (∀ v z2 c, To K z z2 → Rep K z2.d v c → Φ c z2.o → Q v z2.h) → r xs z.h Q
def bCB (c : CB K) (a : BA K) : BE K where
  t := fun W => tCB c.r (a.t W)
  w := fun ρ ω Φ Ψ => a.w ρ ω (fun xs ω1 => c.w xs ω1 Φ) Ψ
  ok := fun W ρ z σ Q Φ Ψ h k r q qx => by
    refine a.ok W ρ z σ _ _ Ψ h k r (fun xs z1 ds t1 r1 h1 => ?_) qx
    exact c.ok z1 xs ds Q Φ h1 t1.ok r1 fun v z2 d t2 => q v z2 d (t1.trans t2)
theorem rep1 {H : Hp} {xs : List V} {d : D} (r : RepL K H xs [d]) : ∃ x, xs = [x] ∧ Rep K H x d := by
  cases r with
  | cons h t => cases t; exact ⟨_, rfl, h⟩
theorem rep2 {H : Hp} {xs : List V} {d e : D} (r : RepL K H xs [d, e]) : ∃ x y, xs = [x, y] ∧ Rep K H x d ∧ Rep K H y e := by
  cases r with
  | cons h t =>
    obtain ⟨y, rfl, h2⟩ := rep1 t
    exact ⟨_, _, rfl, h, h2⟩
theorem CallR.or {X : Cx} {f : Value} {r r' : List V → Hp → VK → Prop} (h : CallR X f r) (h' : CallR X f r') : CallR X f (fun xs H Q => r xs H Q ∨ r' xs H Q) := by
  intro pins s σ H xs us Q I rx q
  rcases q with q | q
  · exact h pins s σ H xs us Q I rx q
  · exact h' pins s σ H xs us Q I rx q
def lenW (ds : List D) (ω : Om) (Φ : D → Om → Prop) : Prop := match ds with
  | [.str s] => s.length ≤ sizeLine ∧ Φ (.int s.length) ω
  | [.tup xs] => Φ (.int xs.length) ω
  | [.scr ns] => Φ (.int ns.length) ω
  | [.lst xs] => Φ (.int xs.length) ω
  | [.ref a] => ∃ xs, ω a = some (.lst xs) ∧ Φ (.int xs.length) ω
  | _ => False
def cLen : CB K where
  r := fun xs H Q => ∃ x n, xs = [x] ∧ LenV K x H n ∧ Q (.int n) H
  w := lenW
  ok := fun z xs ds Q Φ h k r q => by
    unfold lenW at h
    split at h
    · obtain ⟨x, rfl, r1⟩ := rep1 r
      cases r1
      refine ⟨_, _, rfl, ⟨by rw [sOf_len]; exact h.1, rfl⟩, ?_⟩
      rw [sOf_len]
      exact q _ z _ k.to (.int _) h.2
    · obtain ⟨x, rfl, r1⟩ := rep1 r
      obtain ⟨a, ys, rfl, ha, ry⟩ := rep_tup r1
      refine ⟨_, _, rfl, .inr ⟨ys, k.fz.sqt ha, rfl⟩, ?_⟩
      rw [ry.length]
      exact q _ z _ k.to (.int _) h
    · obtain ⟨x, rfl, r1⟩ := rep1 r
      obtain ⟨a, rfl, ha⟩ := rep_scr r1
      refine ⟨_, _, rfl, .inl ⟨_, k.fz.sql ha, rfl⟩, ?_⟩
      rw [List.length_map]
      exact q _ z _ k.to (.int _) h
    · obtain ⟨x, rfl, r1⟩ := rep1 r
      obtain ⟨a, ys, rfl, ha, ry⟩ := rep_lst r1
      refine ⟨_, _, rfl, .inl ⟨ys, SqL.of (k.fz _ _ ha), rfl⟩, ?_⟩
      rw [ry.length]
      exact q _ z _ k.to (.int _) h
    · obtain ⟨x, rfl, r1⟩ := rep1 r
      obtain ⟨ds, hc, h⟩ := h
      cases r1
      obtain ⟨_, ys, h1, h2⟩ := k.cell _ _ hc
      refine ⟨_, _, rfl, .inl ⟨ys, SqL.of h1, rfl⟩, ?_⟩
      rw [h2.length]
      exact q _ z _ k.to (.int _) h
    · exact h.elim
theorem call_cLen {X : Cx} : CallR X (.builtin "len") (cLen (K := X.K)).r := call_len
def blsOf : List D → Option (List Bool)
  | [] => some []
  | .bl b :: r => (blsOf r).map (b :: ·)
  | _ => none
theorem blsOf_map : ∀ bs : List Bool, blsOf (bs.map .bl) = some bs
  | [] => rfl
  | b :: r => by show (blsOf (r.map .bl)).map (b :: ·) = _; rw [blsOf_map r]; rfl
theorem blsOf_eq : ∀ {ds : List D} {bs : List Bool}, blsOf ds = some bs → ds = bs.map .bl
  | [], bs, h => by simp [blsOf] at h; subst h; rfl
  | .bl b :: r, bs, h => by
    simp only [blsOf] at h
    cases e : blsOf r with
    | none => rw [e] at h; cases h
    | some cs => rw [e] at h; cases h; rw [blsOf_eq e]; rfl
  | .non :: _, _, h => by cases h
  | .int _ :: _, _, h => by cases h
  | .str _ :: _, _, h => by cases h
  | .tup _ :: _, _, h => by cases h
  | .lst _ :: _, _, h => by cases h
  | .ref _ :: _, _, h => by cases h
  | .scr _ :: _, _, h => by cases h
  | .exn .. :: _, _, h => by cases h
  | .clo .. :: _, _, h => by cases h
def cAll : CB K where
  r := rAll K
  w := fun ds ω Φ => ∃ d xs bs, ds = [d] ∧ lstOf ω d = some xs ∧ blsOf xs = some bs ∧ Φ (.bl (bs.all id)) ω
  ok := fun z xs ds Q Φ h k r q => by
    obtain ⟨d, ys, bs, rfl, h1, h2, h3⟩ := h
    obtain ⟨x, rfl, r1⟩ := rep1 r
    obtain ⟨a, zs, rfl, ha, rz⟩ := lst_of k r1 h1
    rw [blsOf_eq h2] at rz
    rw [RepL.bls rz] at ha
    exact ⟨a, bs, rfl, SqL.of ha, q _ z _ k.to (.bl _) h3⟩
def cMax2 : CB K where
  r := fun xs H Q => ∃ i j, xs = [.int i, .int j] ∧ Q (.int (if j > i then j else i)) H
  w := fun ds ω Φ => match ds with
    | [.int i, .int j] => Φ (.int (max i j)) ω
    | _ => False
  ok := fun z xs ds Q Φ h k r q => by
    split at h
    · obtain ⟨x, y, rfl, r1, r2⟩ := rep2 r
      cases r1; cases r2
      refine ⟨_, _, rfl, ?_⟩
      rename_i i j
      have e : (if j > i then j else i) = max i j := by
        rw [Int.max_def]
        by_cases c : j > i
        · rw [if_pos c, if_pos (by omega)]
        · rw [if_neg c]
          by_cases d : i ≤ j
          · rw [if_pos d]; omega
          · rw [if_neg d]
      rw [e]
      exact q _ z _ k.to (.int _) h
    · exact h.elim
def cMin2 : CB K where
  r := fun xs H Q => ∃ i j, xs = [.int i, .int j] ∧ Q (.int (if j < i then j else i)) H
  w := fun ds ω Φ => match ds with
    | [.int i, .int j] => Φ (.int (min i j)) ω
    | _ => False
  ok := fun z xs ds Q Φ h k r q => by
    split at h
    · obtain ⟨x, y, rfl, r1, r2⟩ := rep2 r
      cases r1; cases r2
      refine ⟨_, _, rfl, ?_⟩
      rename_i i j
      have e : (if j < i then j else i) = min i j := by
        rw [Int.min_def]
        by_cases c : j < i
        · rw [if_pos c, if_neg (by omega)]
        · rw [if_neg c, if_pos (by omega)]
      rw [e]
      exact q _ z _ k.to (.int _) h
    · exact h.elim
def tyD (ω : Om) : D → Option String
  | .non => some "NoneType"
  | .bl _ => some "bool"
  | .int _ => some "int"
  | .str _ => some "str"
  | .tup _ => some "tuple"
  | .lst _ => some "list"
  | .scr _ => some "list"
  | .exn .. => none
  | .clo .. => none
  | .ref a => match ω a with
    | some (.lst _) => some "list"
    | some (.dk _) => some "dict"
    | some (.dt _) => some "dict"
    | _ => none
theorem tyX_rep {z : Z} (k : z.Ok K) {v : V} {d : D} {T : String} (r : Rep K z.d v d) (h : tyD z.o d = some T) : TyX K z.h v (.type T) := by
  cases r with
  | non => cases h; exact .base .non
  | bl b => cases h; exact .base (.bl _)
  | int i => cases h; exact .base (.int _)
  | str s => cases h; exact .base (.str _)
  | tup h1 _ =>
    cases h
    rcases h1 with (h1 | ⟨o, h1⟩) | ⟨o, its, n, e1, e2, _⟩
    · exact .base (.tup (k.fz _ _ h1))
    · exact .fTuple (k.fz _ _ h1)
    · exact .kTuple e1 e2
  | lst h1 _ => cases h; exact .base (.lst (k.fz _ _ h1))
  | exn0 => cases h
  | exn1 => cases h
  | clo => cases h
  | scr h1 =>
    cases h
    rcases h1 with (h1 | ⟨o, h1⟩) | ⟨o, its, n, e1, e2, _⟩
    · exact .base (.lst (k.fz _ _ h1))
    · exact .base (.frz (k.fz _ _ h1))
    · exact .kList e1 e2
  | ref a =>
    unfold tyD at h
    simp only at h
    split at h
    · rename_i ds hc
      cases h
      obtain ⟨_, xs, h1, _⟩ := k.cell a _ hc
      exact .base (.lst h1)
    · rename_i ds hc
      cases h
      obtain ⟨_, xs, h1, _⟩ := k.cell a _ hc
      exact .base (.dK h1)
    · rename_i ds hc
      cases h
      obtain ⟨_, xs, h1, _⟩ := k.cell a _ hc
      exact .base (.dT h1)
    · cases h
def isT (T U : String) : Bool := T == U || (T == "bool" && U == "int")
theorem kit_all {T U : String} (hT : T = "NoneType" ∨ T = "bool" ∨ T = "int" ∨ T = "str" ∨ T = "tuple" ∨ T = "list" ∨ T = "dict") (hU : U = "bool" ∨ U = "int" ∨ U = "str" ∨ U = "tuple" ∨ U = "list" ∨ U = "dict") : kitB T U = some (isT T U) := by
  rcases hT with rfl | rfl | rfl | rfl | rfl | rfl | rfl <;> rcases hU with rfl | rfl | rfl | rfl | rfl | rfl <;> decide +kernel
theorem tyD_one {ω : Om} {d : D} {T : String} (h : tyD ω d = some T) : T = "NoneType" ∨ T = "bool" ∨ T = "int" ∨ T = "str" ∨ T = "tuple" ∨ T = "list" ∨ T = "dict" := by
  cases d <;> simp [tyD] at h <;> (try (split at h)) <;> simp_all
  all_goals (subst h; simp)
def isW1 (U : String) (x : D) (ω : Om) (Φ : D → Om → Prop) : Prop := match tyD ω x with
  | some T => Φ (.bl (isT T U)) ω
  | none => False
def bIsi (U : String) (hU : U = "bool" ∨ U = "int" ∨ U = "str" ∨ U = "tuple" ∨ U = "list" ∨ U = "dict") (a : BE K) : BE K where
  t := fun W => tCB (rIsi K) (tCons (a.t W) (tCons (tC (.ty U)) tNil))
  w := fun ρ ω Φ Ψ => a.w ρ ω (fun x ω1 => isW1 U x ω1 Φ) Ψ
  ok := fun W ρ z σ Q Φ Ψ h k r q qx => by
    refine a.ok W ρ z σ _ _ Ψ h k r (fun x z1 d t1 r1 h1 => ?_) qx
    unfold isW1 at h1
    split at h1
    · rename_i T hT
      exact ⟨x, .ty U, .type T, .type U, _, rfl, .ty U, tyX_rep t1.ok r1 hT, kit_ty (kit_all (tyD_one hT) hU), q _ z1 _ t1 (.bl _) h1⟩
    · exact h1.elim
end
end
section
section
variable {K : Fg}
def bgN (i : Nat) : BG K where
  t := gName i
  w := fun d ρ ω Φ => Φ (ρ.set i (some d)) ω
  ok := fun d v ρ z σ Q Φ h k r hv q => q _ _ z k.to (r.set i hv) h
structure BGs (K : Fg) where
  t : TGs
  w : List D → En → Om → (En → Om → Prop) → Prop
  ok : ∀ (ds : List D) (vs : List V) (ρ : En) (z : Z) (σ : St) (Q : St → Hp → Prop) (Φ : En → Om → Prop), w ds ρ z.o Φ → z.Ok K → RepE K z.d σ ρ → RepL K z.d vs ds →
    (∀ σ2 ρ2 z2, To K z z2 → RepE K z2.d σ2 ρ2 → Φ ρ2 z2.o → Q σ2 z2.h) → t vs σ z.h Q
def bgsN : BGs K where
  t := gNil
  w := fun ds ρ ω Φ => match ds with
    | [] => Φ ρ ω
    | _ => False
  ok := fun ds vs ρ z σ Q Φ h k r hv q => by
    split at h
    · cases hv
      exact ⟨rfl, q _ _ z k.to r h⟩
    · exact h.elim
def bgsC (g : BG K) (gs : BGs K) : BGs K where
  t := gCons g.t gs.t
  w := fun ds ρ ω Φ => match ds with
    | d :: ds => g.w d ρ ω fun ρ1 ω1 => gs.w ds ρ1 ω1 Φ
    | [] => False
  ok := fun ds vs ρ z σ Q Φ h k r hv q => by
    split at h
    · cases hv with
      | cons h1 h2 =>
      refine ⟨_, _, rfl, ?_⟩
      refine g.ok _ _ ρ z σ _ _ h k r h1 fun σ1 ρ1 z1 t1 r1 q1 => ?_
      exact gs.ok _ _ ρ1 z1 σ1 Q Φ q1 t1.ok r1 (h2.mono t1.ex) fun σ2 ρ2 z2 t2 => q σ2 ρ2 z2 (t1.trans t2)
    · exact h.elim
def bgT (n : Nat) (gs : BGs K) : BG K where
  t := gTup K n gs.t
  w := fun d ρ ω Φ => match d with
    | .tup ds => ds.length = n ∧ gs.w ds ρ ω Φ
    | _ => False
  ok := fun d v ρ z σ Q Φ h k r hv q => by
    split at h
    · obtain ⟨a, xs, rfl, h1, h2⟩ := rep_tup hv
      refine ⟨a, xs, rfl, k.fz.sqt h1, by rw [h2.length]; exact h.1, ?_⟩
      exact gs.ok _ _ ρ z σ Q Φ h.2 k r h2 q
    · exact h.elim
def bsNext : BS K where
  t := fun _ => tNext
  w := fun ρ ω k => k.nx ρ ω
  ok := fun W ρ z σ D' k h o r hk => hk.nx σ ρ z o.to r h
def bsSeq (a b : BS K) : BS K where
  t := fun W => tSeq (a.t W) (b.t W)
  w := fun ρ ω k => a.w ρ ω { k with nx := fun ρ1 ω1 => b.w ρ1 ω1 k }
  ok := fun W ρ z σ D' k h o r hk => a.ok W ρ z σ { D' with nx := b.t W D' } { k with nx := fun ρ1 ω1 => b.w ρ1 ω1 k } h o r
    ⟨fun σ2 ρ2 z2 t r2 h2 => b.ok W ρ2 z2 σ2 D' k h2 t.ok r2 (hk.to t), hk.rt, hk.bk, hk.ct, hk.xc⟩
theorem KOk.qx {W : WX} {z : Z} {k : KD} {D' : Ends} {σ : St} {ρ : En} (hk : KOk K W z k D') (r : RepE K z.d σ ρ) : ∀ x cls d z2, To K z z2 → RepX K z2 cls d x → k.xc x ρ z2.o → W cls d σ z2.h :=
  fun x cls d z2 t hx h => hk.xc x cls d σ ρ z2 t (r.mono t.ex) hx h
def bsAsg (e : BE K) (g : BG K) : BS K where
  t := fun W => tAsg (e.t W) g.t
  w := fun ρ ω k => e.w ρ ω (fun d ω1 => g.w d ρ ω1 k.nx) fun x ω1 => k.xc x ρ ω1
  ok := fun W ρ z σ D' k h o r hk => by
    refine e.ok W ρ z σ _ _ _ h o r (fun v z1 d t1 r1 h1 => ?_) (hk.qx r)
    exact g.ok d v ρ z1 σ D'.nx k.nx h1 t1.ok (r.mono t1.ex) r1 fun σ2 ρ2 z2 t2 => hk.nx σ2 ρ2 z2 (t1.trans t2)
def bsDrop (e : BE K) : BS K where
  t := fun W => tDrop (e.t W)
  w := fun ρ ω k => e.w ρ ω (fun _ ω1 => k.nx ρ ω1) fun x ω1 => k.xc x ρ ω1
  ok := fun W ρ z σ D' k h o r hk => by
    refine e.ok W ρ z σ _ _ _ h o r (fun v z1 d t1 r1 h1 => ?_) (hk.qx r)
    exact hk.nx σ ρ z1 t1 (r.mono t1.ex) h1
def bsRet (e : BE K) : BS K where
  t := fun W => tRet (e.t W)
  w := fun ρ ω k => e.w ρ ω k.rt fun x ω1 => k.xc x ρ ω1
  ok := fun W ρ z σ D' k h o r hk => e.ok W ρ z σ _ _ _ h o r (fun v z1 d t1 r1 h1 => hk.rt v d z1 t1 r1 h1) (hk.qx r)
def bsRetN : BS K where
  t := fun _ => tRetN
  w := fun ρ ω k => k.rt .non ω
  ok := fun W ρ z σ D' k h o r hk => hk.rt _ _ z o.to .non h
def bsIf (c : BT K) (a b : BS K) : BS K where
  t := fun W => tIfS (c.t W) (a.t W) (b.t W)
  w := fun ρ ω k => c.w ρ ω (fun x ω1 => if x = true then a.w ρ ω1 k else b.w ρ ω1 k) fun x ω1 => k.xc x ρ ω1
  ok := fun W ρ z σ D' k h o r hk => by
    refine c.ok W ρ z σ _ _ _ h o r (fun x z1 t1 h1 => ?_) (hk.qx r)
    cases x with
    | true => exact iteT (a.ok W ρ z1 σ D' k h1 t1.ok (r.mono t1.ex) (hk.to t1))
    | false => exact iteF (b.ok W ρ z1 σ D' k h1 t1.ok (r.mono t1.ex) (hk.to t1))
def bsBreak : BS K where
  t := fun _ => tBreak
  w := fun ρ ω k => k.bk ρ ω
  ok := fun W ρ z σ D' k h o r hk => hk.bk σ ρ z o.to r h
def bsCont : BS K where
  t := fun _ => tCont
  w := fun ρ ω k => k.ct ρ ω
  ok := fun W ρ z σ D' k h o r hk => hk.ct σ ρ z o.to r h
def bsAug (i : Nat) (e : BE K) (o : O2 K) : BS K where
  t := fun W => tAug i (e.t W) o.r
  w := fun ρ ω k => match ρ[i]? with
    | some (some d) => e.w ρ ω (fun y ω1 => o.w d y ω1 fun v ω2 => k.nx (ρ.set i (some v)) ω2) fun x ω1 => k.xc x ρ ω1
    | _ => False
  ok := fun W ρ z σ D' k h ok r hk => by
    split at h
    · rename_i d hd
      obtain ⟨v, h1, h2⟩ := r.at_ i d hd
      refine ⟨v, h1, ?_⟩
      refine e.ok W ρ z σ _ _ _ h ok r (fun y z1 e' t1 r1 h3 => ?_) (hk.qx r)
      exact o.ok z1 v y d e' _ _ h3 t1.ok (h2.mono t1.ex) r1 fun u z2 c t2 r2 h4 => hk.nx _ _ z2 (t1.trans t2) ((r.mono (t1.trans t2).ex).set i r2) h4
    · exact h.elim
def bsWhile (c : BT K) (b : BS K) : BS K where
  t := fun W => tWhile (c.t W) (b.t W)
  w := fun ρ ω k => ∃ W : Nat → En → Om → Prop, (∃ m, W m ρ ω) ∧ ∀ m ρ ω, W m ρ ω → c.w ρ ω (fun x ω1 => if x = true then b.w ρ ω1 ⟨fun ρ2 ω2 => ∃ m', m' < m ∧ W m' ρ2 ω2, k.rt, k.nx, fun ρ2 ω2 => ∃ m', m' < m ∧ W m' ρ2 ω2, k.xc⟩ else k.nx ρ ω1) fun x ω1 => k.xc x ρ ω1
  ok := fun W ρ z σ D' k h ok r hk => by
    obtain ⟨V, ⟨n, h⟩, hs⟩ := h
    refine ⟨fun m σ1 H1 => ∃ ρ1 z1, z1.h = H1 ∧ To K z z1 ∧ RepE K z1.d σ1 ρ1 ∧ V m ρ1 z1.o, ⟨n, ρ, z, rfl, ok.to, r, h⟩, ?_⟩
    rintro m σ1 H1 ⟨ρ1, z1, rfl, t1, r1, h1⟩
    refine c.ok W ρ1 z1 σ1 _ _ _ (hs m ρ1 z1.o h1) t1.ok r1 (fun x z2 t2 h2 => ?_) ((hk.to t1).qx r1)
    cases x with
    | false => exact iteF (hk.nx σ1 ρ1 z2 (t1.trans t2) (r1.mono t2.ex) h2)
    | true =>
      refine iteT ⟨fun σ3 H3 => ∃ m', m' < m ∧ ∃ ρ3 z3, z3.h = H3 ∧ To K z z3 ∧ RepE K z3.d σ3 ρ3 ∧ V m' ρ3 z3.o, fun σ3 H3 q => q, ?_⟩
      have t12 := t1.trans t2
      exact b.ok W ρ1 z2 σ1 _ ⟨fun ρ2 ω2 => ∃ m', m' < m ∧ V m' ρ2 ω2, k.rt, k.nx, fun ρ2 ω2 => ∃ m', m' < m ∧ V m' ρ2 ω2, k.xc⟩ h2 t2.ok (r1.mono t2.ex)
        ⟨fun σ3 ρ3 z3 t3 r3 ⟨m', lt, h3⟩ => ⟨m', lt, ρ3, z3, rfl, t12.trans t3, r3, h3⟩, (hk.to t12).rt, (hk.to t12).nx, fun σ3 ρ3 z3 t3 r3 ⟨m', lt, h3⟩ => ⟨m', lt, ρ3, z3, rfl, t12.trans t3, r3, h3⟩, (hk.to t12).xc⟩
structure ItOk (K : Fg) (J : It) (z0 : Z) (ds : List D) (chk : Om → Prop) : Prop where
  go : ∀ i z, To K z0 z → chk z.o → i < ds.length → J.go i z.h ∧ ∀ x H', J.yld i z.h x H' → ∃ z' d, To K z z' ∧ z'.h = H' ∧ z'.o = z.o ∧ ds[i]? = some d ∧ Rep K z'.d x d
  stop : ∀ i z, To K z0 z → chk z.o → ds.length ≤ i → J.stop i z.h
structure BI (K : Fg) where
  t : WX → TI
  w : En → Om → (List D → (Om → Prop) → Om → Prop) → (Exn → Om → Prop) → Prop
  ok : ∀ (W : WX) (ρ : En) (z : Z) (σ : St) (R : It → Hp → Prop) (Φ : List D → (Om → Prop) → Om → Prop) (Ψ : Exn → Om → Prop), w ρ z.o Φ Ψ → z.Ok K → RepE K z.d σ ρ →
    (∀ J z2 ds chk, To K z z2 → ItOk K J z2 ds chk → Φ ds chk z2.o → R J z2.h) → (∀ x cls d z2, To K z z2 → RepX K z2 cls d x → Ψ x z2.o → W cls d σ z2.h) → t W σ z.h R
def iAny (K : Fg) (te : TE) : TI := fun σ H R => te σ H fun x H1 => (∃ a, x = .ref a ∧ (∃ xs, SqL K H1 a xs) ∧ R (Itl K a) H1) ∨ (∃ a, x = .ref a ∧ (∃ xs, SqT K H1 a xs) ∧ R (Itt K a) H1) ∨ ∃ s, x = .str s ∧ R (Its s) H1
theorem pi_any {X : Cx} {tg e : Expr} {te : TE} (he : PE X e te) : PI X tg e (iAny X.K te) := by
  refine ⟨fun pins s σ H R I h => ?_⟩
  refine thn (he.run pins s σ H _ I h) fun v s1 ⟨x, H1, I1, r1, q1⟩ => ?_
  rcases q1 with ⟨a, e, ⟨xs, hq⟩, q⟩ | ⟨a, e, ⟨xs, hq⟩, q⟩ | ⟨y, e, q⟩
  · subst e
    cases r1
    obtain ⟨its, rv, p, hz⟩ := I1.list hq
    refine wpAny_pyIter_list p.isList ?_
    refine ⟨s1.heap.objs.size, [s1.heap.objs.size], _, _, H1, rfl, I1.kept (t' := s1.toks) fun b o e => Heap.get?_push_of_some _ e, turn_list a _, ⟨_, Heap.get?_push_size _ rfl, rfl, rfl⟩, fun b hb => ?_, q⟩
    have e : b = s1.heap.objs.size := by simpa using hb
    subst e
    exact I1.fpOk (Nat.le_refl _) (I1.hok.fresh (Nat.le_refl _))
  · subst e
    cases r1
    obtain ⟨its, rv, p, hz⟩ := I1.tuple hq
    refine wpAny_pyIter_tuple (show s1.heap.IsTuple a its.toArray from p) ?_
    refine ⟨s1.heap.objs.size, [s1.heap.objs.size], _, _, H1, rfl, I1.kept (t' := s1.toks) fun b o e => Heap.get?_push_of_some _ e, turn_tuple a _, ⟨_, Heap.get?_push_size _ rfl, rfl, rfl⟩, fun b hb => ?_, q⟩
    have e : b = s1.heap.objs.size := by simpa using hb
    subst e
    exact I1.fpOk (Nat.le_refl _) (I1.hok.fresh (Nat.le_refl _))
  · subst e
    obtain ⟨t, rfl⟩ := r1
    cases ha : y.cps.all (· < 128)
    · exact wpAny_pyIter_wide ha (pi_one (tk := s1.toks) I1 _ (turn_str _ y t "str_iterator" (.inr rfl)) ⟨_, Heap.get?_push_size _ rfl, rfl, rfl⟩ q)
    · exact wpAny_pyIter_ascii ha (pi_one (tk := s1.toks) I1 _ (turn_str _ y t "str_ascii_iterator" (.inl rfl)) ⟨_, Heap.get?_push_size _ rfl, rfl, rfl⟩ q)
theorem it_lst {z : Z} {a : Addr} {xs : List V} {ds : List D} (h : z.d a = some (.lst xs)) (r : RepL K z.d xs ds) : ItOk K (Itl K a) z ds fun _ => True where
  go := fun i z1 t _ hi => by
    have hz : z1.h a = some (.lst xs) := t.ok.fz _ _ (t.ex _ _ h)
    obtain ⟨d, hd⟩ : ∃ d, ds[i]? = some d := ⟨ds[i], List.getElem?_eq_getElem hi⟩
    obtain ⟨x, hx, rx⟩ := r.get hd
    refine ⟨⟨xs, x, SqL.of hz, hx⟩, fun y H' hy => ⟨z1, d, t.ok.to, hy.1.symm, rfl, hd, ?_⟩⟩
    have := hy.2 xs (SqL.of hz)
    rw [hx] at this; cases this
    exact rx.mono t.ex
  stop := fun i z1 t _ hi => ⟨xs, SqL.of (t.ok.fz _ _ (t.ex _ _ h)), by rw [r.length]; exact hi⟩
theorem it_scr {z : Z} {a : Addr} {ns : List Int} (h : SqL K z.d a (ns.map V.int)) : ItOk K (Itl K a) z (ns.map .int) fun _ => True where
  go := fun i z1 t _ hi => by
    have hz := t.ok.fz.sql (t.ex.sql h)
    have hi : i < ns.length := by simpa using hi
    have hx : (ns.map V.int)[i]? = some (.int ns[i]) := by simp [hi]
    refine ⟨⟨_, _, hz, hx⟩, fun y H' hy => ⟨z1, .int ns[i], t.ok.to, hy.1.symm, rfl, by simp [hi], ?_⟩⟩
    have := hy.2 _ hz
    rw [hx] at this; cases this
    exact .int _
  stop := fun i z1 t _ hi => ⟨_, t.ok.fz.sql (t.ex.sql h), by simpa using hi⟩
theorem it_tup {z : Z} {a : Addr} {xs : List V} {ds : List D} (h : SqT K z.d a xs) (r : RepL K z.d xs ds) : ItOk K (Itt K a) z ds fun _ => True where
  go := fun i z1 t _ hi => by
    have hz := t.ok.fz.sqt (t.ex.sqt h)
    obtain ⟨d, hd⟩ : ∃ d, ds[i]? = some d := ⟨ds[i], List.getElem?_eq_getElem hi⟩
    obtain ⟨x, hx, rx⟩ := r.get hd
    refine ⟨⟨xs, x, hz, hx⟩, fun y H' hy => ⟨z1, d, t.ok.to, hy.1.symm, rfl, hd, ?_⟩⟩
    have := hy.2 xs hz
    rw [hx] at this; cases this
    exact rx.mono t.ex
  stop := fun i z1 t _ hi => ⟨xs, t.ok.fz.sqt (t.ex.sqt h), by rw [r.length]; exact hi⟩
theorem it_ref (z : Z) (a : Addr) (ds : List D) : ItOk K (Itl K a) z ds fun ω => ω a = some (.lst ds) where
  go := fun i z1 t hc hi => by
    obtain ⟨_, xs, hz, r⟩ := t.ok.cell a _ hc
    obtain ⟨d, hd⟩ : ∃ d, ds[i]? = some d := ⟨ds[i], List.getElem?_eq_getElem hi⟩
    obtain ⟨x, hx, rx⟩ := r.get hd
    refine ⟨⟨xs, x, SqL.of hz, hx⟩, fun y H' hy => ⟨z1, d, t.ok.to, hy.1.symm, rfl, hd, ?_⟩⟩
    have := hy.2 xs (SqL.of hz)
    rw [hx] at this; cases this
    exact rx
  stop := fun i z1 t hc hi => by
    obtain ⟨_, xs, hz, r⟩ := t.ok.cell a _ hc
    exact ⟨xs, SqL.of hz, by rw [r.length]; exact hi⟩
theorem it_str (z : Z) (s : List Nat) : ItOk K (Its ⟨s.toArray⟩) z (s.map fun c => .str [c]) fun _ => True where
  go := fun i z1 t _ hi => by
    have hi : i < s.length := by simpa using hi
    refine ⟨by show i < s.toArray.size; simpa using hi, fun y H' hy => ⟨z1, .str [s[i]], t.ok.to, hy.1.symm, rfl, by simp [hi], ?_⟩⟩
    obtain ⟨_, c, hc, rfl⟩ := hy
    have e : c = s[i] := by
      have : s.toArray[i]? = some c := hc
      simp [hi] at this
      exact this.symm
    subst e
    exact .str [s[i]]
  stop := fun i z1 t _ hi => by show s.toArray.size ≤ i; simpa using hi
def rngD (lo : Int) (n : Nat) : List D := (List.range n).map fun i => .int (lo + (i : Nat))
theorem it_rng (z : Z) (lo : Int) (n : Nat) : ItOk K (Itr lo n) z (rngD lo n) fun _ => True where
  go := fun i z1 t _ hi => by
    have hi : i < n := by simpa [rngD] using hi
    refine ⟨hi, fun y H' hy => ⟨z1, .int (lo + (i : Nat)), t.ok.to, hy.1.symm, rfl, by simp [rngD, hi], ?_⟩⟩
    rw [hy.2]
    exact .int _
  stop := fun i z1 t _ hi => by show n ≤ i; simpa [rngD] using hi
def itemsW (x : D) (ω : Om) (Φ : List D → (Om → Prop) → Om → Prop) : Prop := match x with
  | .lst ds => Φ ds (fun _ => True) ω
  | .tup ds => Φ ds (fun _ => True) ω
  | .scr ns => Φ (ns.map .int) (fun _ => True) ω
  | .str s => Φ (s.map fun c => .str [c]) (fun _ => True) ω
  | .ref a => ∃ ds, ω a = some (.lst ds) ∧ Φ ds (fun ω' => ω' a = some (.lst ds)) ω
  | _ => False
def biSeq (e : BE K) : BI K where
  t := fun W => iAny K (e.t W)
  w := fun ρ ω Φ Ψ => e.w ρ ω (fun x ω1 => itemsW x ω1 Φ) Ψ
  ok := fun W ρ z σ R Φ Ψ h o r q qx => by
    refine e.ok W ρ z σ _ _ Ψ h o r (fun v z1 d t1 r1 h1 => ?_) qx
    unfold itemsW at h1
    split at h1
    · obtain ⟨a, xs, rfl, e1, e2⟩ := rep_lst r1
      exact .inl ⟨a, rfl, ⟨xs, SqL.of (t1.ok.fz _ _ e1)⟩, q _ z1 _ _ t1 (it_lst e1 e2) h1⟩
    · obtain ⟨a, xs, rfl, e1, e2⟩ := rep_tup r1
      exact .inr (.inl ⟨a, rfl, ⟨xs, t1.ok.fz.sqt e1⟩, q _ z1 _ _ t1 (it_tup e1 e2) h1⟩)
    · obtain ⟨a, rfl, e1⟩ := rep_scr r1
      exact .inl ⟨a, rfl, ⟨_, t1.ok.fz.sql e1⟩, q _ z1 _ _ t1 (it_scr e1) h1⟩
    · cases r1
      exact .inr (.inr ⟨_, rfl, q _ z1 _ _ t1 (it_str z1 _) h1⟩)
    · cases r1
      obtain ⟨ds, hc, h1⟩ := h1
      obtain ⟨_, xs, e1, _⟩ := t1.ok.cell _ _ hc
      exact .inl ⟨_, rfl, ⟨xs, SqL.of e1⟩, q _ z1 _ _ t1 (it_ref z1 _ ds) h1⟩
    · exact h1.elim
def biRng1 (a : BA K) : BI K where
  t := fun W => iRng1 (a.t W)
  w := fun ρ ω Φ Ψ => a.w ρ ω (fun xs ω1 => match xs with
    | [.int j] => (-(2 ^ 62) ≤ j ∧ j < 2 ^ 62) ∧ Φ (rngD 0 j.toNat) (fun _ => True) ω1
    | _ => False) Ψ
  ok := fun W ρ z σ R Φ Ψ h o r q qx => by
    refine a.ok W ρ z σ _ _ Ψ h o r (fun vs z1 ds t1 r1 h1 => ?_) qx
    split at h1
    · obtain ⟨x, rfl, r2⟩ := rep1 r1
      cases r2
      exact ⟨_, rfl, h1.1.1, h1.1.2, q _ z1 _ _ t1 (it_rng z1 0 _) h1.2⟩
    · exact h1.elim
def biRng2 (a : BA K) : BI K where
  t := fun W => iRng2 (a.t W)
  w := fun ρ ω Φ Ψ => a.w ρ ω (fun xs ω1 => match xs with
    | [.int i, .int j] => (-(2 ^ 62) ≤ i ∧ i < 2 ^ 62 ∧ -(2 ^ 62) ≤ j ∧ j < 2 ^ 62) ∧ Φ (rngD i (j - i).toNat) (fun _ => True) ω1
    | _ => False) Ψ
  ok := fun W ρ z σ R Φ Ψ h o r q qx => by
    refine a.ok W ρ z σ _ _ Ψ h o r (fun vs z1 ds t1 r1 h1 => ?_) qx
    split at h1
    · obtain ⟨x, y, rfl, r2, r3⟩ := rep2 r1
      cases r2; cases r3
      exact ⟨_, _, rfl, h1.1, q _ z1 _ _ t1 (it_rng z1 _ _) h1.2⟩
    · exact h1.elim
def forGo (chk : Om → Prop) (g : BG K) (b : BS K) (k : KD) : List D → En → Om → Prop
  | [] => fun ρ ω => chk ω ∧ k.nx ρ ω
  | d :: r => fun ρ ω => chk ω ∧ g.w d ρ ω fun ρ1 ω1 => b.w ρ1 ω1 { k with nx := forGo chk g b k r, ct := forGo chk g b k r, bk := k.nx }
def bsFor (i : BI K) (g : BG K) (b : BS K) : BS K where
  t := fun W => tFor (i.t W) g.t (b.t W)
  w := fun ρ ω k => i.w ρ ω (fun ds chk ω1 => forGo chk g b k ds ρ ω1) fun x ω1 => k.xc x ρ ω1
  ok := fun W ρ z σ D' k h ok r hk => by
    refine i.ok W ρ z σ _ _ _ h ok r (fun J z0 ds chk t0 J0 h0 => ?_) (hk.qx r)
    refine ⟨fun i m σ1 H1 => m = ds.length - i ∧ i ≤ ds.length ∧ ∃ ρ1 z1, z1.h = H1 ∧ To K z0 z1 ∧ RepE K z1.d σ1 ρ1 ∧ forGo chk g b k (ds.drop i) ρ1 z1.o, ⟨_, rfl, Nat.zero_le _, ρ, z0, rfl, t0.ok.to, r.mono t0.ex, by simpa using h0⟩, ?_⟩
    rintro i m σ1 H1 ⟨rfl, hi, ρ1, z1, rfl, t1, r1, h1⟩
    by_cases c : i < ds.length
    · obtain ⟨d, hd⟩ : ∃ d, ds[i]? = some d := ⟨ds[i], List.getElem?_eq_getElem c⟩
      have e : ds.drop i = d :: ds.drop (i + 1) := by
        rw [List.drop_eq_getElem_cons c]
        congr 1
        rw [List.getElem?_eq_getElem c] at hd
        exact Option.some.inj hd
      rw [e] at h1
      obtain ⟨h1, h2⟩ := h1
      obtain ⟨g1, g2⟩ := J0.go i z1 t1 h1 c
      refine .inr ⟨g1, fun σ3 H3 => ∃ ρ3 z3, z3.h = H3 ∧ To K z0 z3 ∧ RepE K z3.d σ3 ρ3 ∧ forGo chk g b k (ds.drop (i + 1)) ρ3 z3.o, fun σ3 H3 q => ⟨_, by omega, rfl, c, q⟩, fun x H' hy => ?_⟩
      obtain ⟨z2, d', t2, rfl, eo, hd', rx⟩ := g2 x H' hy
      rw [hd] at hd'; cases hd'
      rw [← eo] at h2
      refine g.ok d x ρ1 z2 σ1 _ _ h2 t2.ok (r1.mono t2.ex) rx fun σ2 ρ2 z3 t3 r2 h3 => ?_
      have t03 := (t1.trans t2).trans t3
      exact b.ok W ρ2 z3 σ2 _ { k with nx := forGo chk g b k (ds.drop (i + 1)), ct := forGo chk g b k (ds.drop (i + 1)), bk := k.nx } h3 t3.ok r2
        ⟨fun σ3 ρ3 z4 t4 r4 h4 => ⟨ρ3, z4, rfl, t03.trans t4, r4, h4⟩, (hk.to (t0.trans t03)).rt, (hk.to (t0.trans t03)).nx, fun σ3 ρ3 z4 t4 r4 h4 => ⟨ρ3, z4, rfl, t03.trans t4, r4, h4⟩, (hk.to (t0.trans t03)).xc⟩
    · have e : ds.drop i = [] := List.drop_eq_nil_of_le (by omega)
      rw [e] at h1
      exact .inl ⟨J0.stop i z1 t1 h1.1 (by omega), hk.nx σ1 ρ1 z1 (t0.trans t1) r1 h1.2⟩
def Only (g : BG K) (vs : List Nat) : Prop := ∀ (v : V) (σ : St) (H : Hp) (Q : St → Hp → Prop), g.t v σ H Q → g.t v σ H fun σ2 H2 => (∀ τ : St, wipe σ vs = wipe τ vs → wipe σ2 vs = wipe τ vs) ∧ Q σ2 H2
theorem wipe_set {σ : St} {i : Nat} {x : Option V} : ∀ {vs : List Nat}, i ∈ vs → wipe (σ.set i x) vs = wipe σ vs
  | v :: vs, h => by
    show (wipe (σ.set i x) vs).set v none = (wipe σ vs).set v none
    by_cases c : i ∈ vs
    · rw [wipe_set c]
    · have e : i = v := by
        rcases List.mem_cons.mp h with h | h
        · exact h
        · exact absurd h c
      subst e
      have aux : ∀ ws : List Nat, i ∉ ws → wipe (σ.set i x) ws = (wipe σ ws).set i x := by
        intro ws
        induction ws with
        | nil => intro _; rfl
        | cons w ws ih =>
          intro hw
          have h1 : i ≠ w := fun e => hw (by rw [e]; exact List.mem_cons_self)
          have h2 : i ∉ ws := fun e => hw (List.mem_cons_of_mem _ e)
          show (wipe (σ.set i x) ws).set w none = ((wipe σ ws).set w none).set i x
          rw [ih h2, List.set_comm _ _ h1]
      rw [aux vs c, List.set_set]
theorem only_n {i : Nat} {vs : List Nat} (h : i ∈ vs) : Only (K := K) (bgN i) vs := fun v σ H Q q => ⟨fun τ e => by rw [wipe_set h]; exact e, q⟩
def OnlyS (g : BGs K) (vs : List Nat) : Prop := ∀ (xs : List V) (σ : St) (H : Hp) (Q : St → Hp → Prop), g.t xs σ H Q → g.t xs σ H fun σ2 H2 => (∀ τ : St, wipe σ vs = wipe τ vs → wipe σ2 vs = wipe τ vs) ∧ Q σ2 H2
theorem onlyS_n {vs : List Nat} : OnlyS (K := K) bgsN vs := fun xs σ H Q q => ⟨q.1, fun _ e => e, q.2⟩
def Mon (g : BG K) : Prop := ∀ (v : V) (σ : St) (H : Hp) (Q Q' : St → Hp → Prop), (∀ σ2 H2, Q σ2 H2 → Q' σ2 H2) → g.t v σ H Q → g.t v σ H Q'
def MonS (g : BGs K) : Prop := ∀ (v : List V) (σ : St) (H : Hp) (Q Q' : St → Hp → Prop), (∀ σ2 H2, Q σ2 H2 → Q' σ2 H2) → g.t v σ H Q → g.t v σ H Q'
theorem mon_n {i : Nat} : Mon (K := K) (bgN i) := fun _ _ _ _ _ h q => h _ _ q
theorem monS_n : MonS (K := K) bgsN := fun _ _ _ _ _ h q => ⟨q.1, h _ _ q.2⟩
theorem monS_c {g : BG K} {gs : BGs K} (h1 : Mon g) (h2 : MonS gs) : MonS (bgsC g gs) := fun vs σ H Q Q' h q => by
  obtain ⟨v, r, e, q⟩ := q
  exact ⟨v, r, e, h1 v σ H _ _ (fun σ2 H2 q2 => h2 r σ2 H2 Q Q' h q2) q⟩
theorem onlyS_c {g : BG K} {gs : BGs K} {vs : List Nat} (m : Mon g) (ms : MonS gs) (h1 : Only g vs) (h2 : OnlyS gs vs) : OnlyS (bgsC g gs) vs := fun xs σ H Q q => by
  obtain ⟨v, r, e, q⟩ := q
  refine ⟨v, r, e, ?_⟩
  refine m v σ H _ _ (fun σ2 H2 q2 => ?_) (h1 v σ H _ q)
  exact ms r σ2 H2 _ _ (fun σ3 H3 q3 => ⟨fun τ et => q3.1 τ (q2.1 τ et), q3.2⟩) (h2 r σ2 H2 _ q2.2)
theorem only_t {n : Nat} {gs : BGs K} {vs : List Nat} (h : OnlyS gs vs) : Only (bgT n gs) vs := fun v σ H Q q => by
  obtain ⟨a, xs, e, h1, h2, q⟩ := q
  exact ⟨a, xs, e, h1, h2, h xs σ H Q q⟩
theorem mon_t {n : Nat} {gs : BGs K} (h : MonS gs) : Mon (bgT n gs) := fun v σ H Q Q' hq q => by
  obtain ⟨a, xs, e, h1, h2, q⟩ := q
  exact ⟨a, xs, e, h1, h2, h xs σ H Q Q' hq q⟩
def W0 : WX := fun _ _ _ _ => False
def X0 : Exn → Om → Prop := fun _ _ => False
def lcGo (chk : Om → Prop) (g : BG K) (c : BT K) (e : BE K) (ρ : En) (F : List D → Om → Prop) : List D → List D → Om → Prop
  | [] => fun acc ω => chk ω ∧ F acc ω
  | d :: r => fun acc ω => chk ω ∧ g.w d ρ ω fun ρ1 ω1 => c.w ρ1 ω1 (fun b ω2 => if b = true then e.w ρ1 ω2 (fun y ω3 => acc.length < sizeLine ∧ lcGo chk g c e ρ F r (acc ++ [y]) ω3) X0 else lcGo chk g c e ρ F r acc ω2) X0
def bLc (own : Bool) (i : BI K) (g : BG K) (c : BT K) (e : BE K) (vs : List Nat) (hm : Mon g) (ho : Only g vs) : BE K where
  t := fun W => tLc (i.t W) g.t (c.t W0) (e.t W0) vs
  w := fun ρ ω Φ Ψ => i.w ρ ω (fun ds chk ω1 => lcGo chk g c e (wipeD ρ vs) (fun out ω2 => if own = true then ∀ a, ω2 a = none → Φ (.ref a) (ω2.set a (.lst out)) else Φ (.lst out) ω2) ds [] ω1) Ψ
  ok := fun W ρ z σ Q Φ Ψ h ok r q qx => by
    refine i.ok W ρ z σ _ _ Ψ h ok r (fun J z0 ds chk t0 J0 h0 => ?_) qx
    intro p hp
    have hp0 := t0.ok.free hp
    generalize hF : (fun (out : List D) (ω2 : Om) => if own = true then ∀ a, ω2 a = none → Φ (.ref a) (ω2.set a (.lst out)) else Φ (.lst out) ω2) = F at h0
    have tp : To K z0 ⟨z0.d, upd z0.h p (.lst []), z0.o, z0.t⟩ := by
      refine ⟨⟨fun a u e => ?_, fun a c e => ?_, tabs_new t0.ok.tab hp, t0.ok.tk, t0.ok.nd⟩, .refl _, fun a u e _ _ => ?_, upd_kept, rfl, fun _ e => .inl e, fun _ e => .inl e⟩
      · exact (upd_ne (ne_of_none (t0.ok.fz a u e) hp)).trans (t0.ok.fz a u e)
      · obtain ⟨c1, c2⟩ := t0.ok.cell a c e
        exact ⟨c1, c2.mono (.refl _) fun u e => (upd_ne (ne_of_none e hp)).trans e⟩
      · exact (upd_ne (ne_of_none e hp)).trans e
    refine ⟨fun j m H1 => m = ds.length - j ∧ j ≤ ds.length ∧ ∃ z1 xs acc, z1.h = H1 ∧ To K z0 z1 ∧ z1.h p = some (.lst xs) ∧ z1.o p = none ∧ z1.d p = none ∧ RepL K z1.d xs acc ∧ lcGo chk g c e (wipeD ρ vs) F (ds.drop j) acc z1.o,
      ⟨_, rfl, Nat.zero_le _, ⟨z0.d, upd z0.h p (.lst []), z0.o, z0.t⟩, [], [], rfl, tp, upd_same, hp0.2, hp0.1, .nil, by simpa using h0⟩, ?_⟩
    rintro j m H1 ⟨rfl, hj, z1, xs, acc, rfl, t1, hz, hzo, hzd, ra, h1⟩
    by_cases cc : j < ds.length
    · obtain ⟨d, hd⟩ : ∃ d, ds[j]? = some d := ⟨ds[j], List.getElem?_eq_getElem cc⟩
      have ed : ds.drop j = d :: ds.drop (j + 1) := by
        rw [List.drop_eq_getElem_cons cc]
        congr 1
        rw [List.getElem?_eq_getElem cc] at hd
        exact Option.some.inj hd
      rw [ed] at h1
      obtain ⟨h1, h2⟩ := h1
      obtain ⟨g1, g2⟩ := J0.go j z1 t1 h1 cc
      refine .inr ⟨g1, fun H3 => ∃ z3 xs3 acc3, z3.h = H3 ∧ To K z0 z3 ∧ z3.h p = some (.lst xs3) ∧ z3.o p = none ∧ z3.d p = none ∧ RepL K z3.d xs3 acc3 ∧ lcGo chk g c e (wipeD ρ vs) F (ds.drop (j + 1)) acc3 z3.o, fun H3 q3 => ⟨_, by omega, rfl, cc, q3⟩, fun x H' hy => ?_⟩
      obtain ⟨z2, d', t2, rfl, eo, hd', rx⟩ := g2 x H' hy
      rw [hd] at hd'; cases hd'
      rw [← eo] at h2
      have stay : ∀ {za zb : Z}, To K za zb → za.h p = some (.lst xs) → za.o p = none → za.d p = none → zb.h p = some (.lst xs) ∧ zb.o p = none ∧ zb.d p = none := by
        intro za zb t a1 a2 a3
        refine ⟨t.keep _ _ a1 a2 (fun _ z => by cases z), ?_, ?_⟩
        · cases eb : zb.o p with
          | none => rfl
          | some cb =>
            rcases t.fresh p (by simp [eb]) with w | w
            · exact absurd a2 w
            · rw [a1] at w; cases w
        · cases eb : zb.d p with
          | none => rfl
          | some cb =>
            rcases t.freshd p (by simp [eb]) with w | w | w | ⟨o', w, n'⟩
            · exact absurd a3 w
            · rw [a1] at w; cases w
            · exact absurd a2 w
            · rw [a1] at w; cases w; exact absurd rfl (n' _)
      obtain ⟨b1, b2, b3⟩ := stay t2 hz hzo hzd
      have rw2 : RepE K z2.d (wipe σ vs) (wipeD ρ vs) := (r.mono ((t0.trans t1).trans t2).ex).wipe vs
      refine hm x (wipe σ vs) z2.h _ _ (fun σ3 H3 q3 => ?_) (ho x (wipe σ vs) z2.h _ (g.ok d x (wipeD ρ vs) z2 (wipe σ vs) (fun σ3 H3 => ∃ ρ3 z3, z3.h = H3 ∧ To K z2 z3 ∧ RepE K z3.d σ3 ρ3 ∧
        c.w ρ3 z3.o (fun b ω2 => if b = true then e.w ρ3 ω2 (fun y ω3 => acc.length < sizeLine ∧ lcGo chk g c e (wipeD ρ vs) F (ds.drop (j + 1)) (acc ++ [y]) ω3) X0 else lcGo chk g c e (wipeD ρ vs) F (ds.drop (j + 1)) acc ω2) X0) _ h2 t2.ok rw2 rx fun σ3 ρ3 z3 t3 r3 h3 => ⟨ρ3, z3, rfl, t3, r3, h3⟩))
      obtain ⟨q1, ρ3, z3, rfl, t3, r3, h3⟩ := q3
      have ww : ∀ ws : List Nat, wipe (wipe σ ws) ws = wipe σ ws := by
        have a1 : ∀ (ws : List Nat) (τ : St) (i : Nat), i ∈ ws → (wipe τ ws).set i none = wipe τ ws := by
          intro ws
          induction ws with
          | nil => intro τ i hi; cases hi
          | cons w ws ih =>
            intro τ i hi
            show ((wipe τ ws).set w none).set i none = (wipe τ ws).set w none
            by_cases e : i = w
            · subst e; rw [List.set_set]
            · rcases List.mem_cons.mp hi with h | h
              · exact absurd h e
              · rw [List.set_comm _ _ (fun q => e q.symm), ih τ i h]
        have a2 : ∀ (us ws : List Nat), (∀ u ∈ us, u ∈ ws) → wipe (wipe σ ws) us = wipe σ ws := by
          intro us
          induction us with
          | nil => intro ws _; rfl
          | cons u us ih =>
            intro ws hu
            show (wipe (wipe σ ws) us).set u none = _
            rw [ih ws fun v hv => hu v (List.mem_cons_of_mem _ hv), a1 ws σ u (hu u List.mem_cons_self)]
        exact fun ws => a2 ws ws fun _ h => h
      refine ⟨(q1 (wipe σ vs) rfl).trans (ww vs), ?_⟩
      obtain ⟨b4, b5, b6⟩ := stay t3 b1 b2 b3
      refine c.ok W0 ρ3 z3 σ3 _ _ _ h3 t3.ok r3 (fun b z4 t4 h4 => ?_) fun _ _ _ _ _ _ w => w.elim
      obtain ⟨b7, b8, b9⟩ := stay t4 b4 b5 b6
      have t04 := ((t1.trans t2).trans t3).trans t4
      cases b with
      | false => exact iteF ⟨z4, xs, acc, rfl, t04, b7, b8, b9, ra.mono (((t2.trans t3).trans t4).ex), h4⟩
      | true =>
        refine iteT ?_
        refine e.ok W0 ρ3 z4 σ3 _ _ _ h4 t4.ok (r3.mono t4.ex) (fun y z5 dy t5 ry h5 => ?_) fun _ _ _ _ _ _ w => w.elim
        obtain ⟨c1, c2, c3⟩ := stay t5 b7 b8 b9
        have ra5 := ra.mono ((((t2.trans t3).trans t4).trans t5).ex)
        refine ⟨xs, c1, by rw [ra.length]; exact h5.1, ⟨z5.d, upd z5.h p (.lst (xs ++ [y])), z5.o, z5.t⟩, xs ++ [y], acc ++ [dy], rfl, ?_, upd_same, c2, c3, ra5.append (.cons ry .nil), h5.2⟩
        have t05 := t04.trans t5
        refine ⟨⟨fun a u e => ?_, fun a c e => ?_, tabs_put t05.ok.tab c1 (fun _ z => by cases z) (fun _ _ z => by unfold LamX.CodeO at z; cases z), t05.ok.tk, t05.ok.nd⟩, t05.ex, fun a u e n nt => ?_, fun a h => upd_kept a (t05.kept a h), t05.tt, t05.fresh, t05.freshd⟩
        · have ne : a ≠ p := fun w => by subst w; rw [show z5.d a = some u from e] at c3; cases c3
          exact (upd_ne ne).trans (t05.ok.fz a u e)
        · have ne : a ≠ p := fun w => by subst w; rw [show z5.o a = some c from e] at c2; cases c2
          obtain ⟨k1, k2⟩ := t05.ok.cell a c e
          exact ⟨k1, k2.mono (.refl _) fun u e => (upd_ne ne).trans e⟩
        · exact (upd_ne (ne_of_none e hp)).trans (t05.keep a u e n nt)
    · have ed : ds.drop j = [] := List.drop_eq_nil_of_le (by omega)
      rw [ed] at h1
      refine .inl ⟨J0.stop j z1 t1 h1.1 (by omega), ?_⟩
      have hf := h1.2
      rw [← hF] at hf
      cases own with
      | false =>
        refine q (.ref p) ⟨upd z1.d p (.lst xs), z1.h, z1.o, z1.t⟩ (.lst acc) (t0.trans ?_) (.lst upd_same (ra.mono (Exd.new hzd))) hf
        refine ⟨⟨fun a u e => ?_, fun a c e => ?_, t1.ok.tab, t1.ok.tk, nd_upd t1.ok.nd (by intro _ z; cases z)⟩, t1.ex.trans (Exd.new hzd), t1.keep, t1.kept, t1.tt, t1.fresh, fun a e => ?_⟩
        · by_cases w : a = p
          · subst w
            have e : upd z1.d a (.lst xs) a = some u := e
            rw [upd_same] at e; cases e; exact hz
          · have e : upd z1.d p (.lst xs) a = some u := e
            rw [upd_ne w] at e; exact t1.ok.fz a u e
        · have ne : a ≠ p := fun w => by subst w; rw [show z1.o a = some c from e] at hzo; cases hzo
          obtain ⟨k1, k2⟩ := t1.ok.cell a c e
          exact ⟨(upd_ne ne).trans k1, k2.mono (Exd.new hzd) fun u e => e⟩
        · by_cases w : a = p
          · subst w; exact .inr (.inl hp)
          · have e : upd z1.d p (.lst xs) a ≠ none := e
            rw [upd_ne w] at e; exact t1.freshd a e
      | true =>
        refine q (.ref p) ⟨z1.d, z1.h, z1.o.set p (.lst acc), z1.t⟩ (.ref p) (t0.trans ?_) (.ref p) (hf p hzo)
        refine ⟨⟨t1.ok.fz, fun a c e => ?_, t1.ok.tab, t1.ok.tk, t1.ok.nd⟩, t1.ex, t1.keep, t1.kept, t1.tt, fun a e => ?_, t1.freshd⟩
        · by_cases w : a = p
          · subst w
            have e : z1.o.set a (.lst acc) a = some c := e
            rw [Om.set_same] at e; cases e
            exact ⟨hzd, xs, hz, ra⟩
          · have e : z1.o.set p (.lst acc) a = some c := e
            rw [Om.set_ne w] at e
            exact t1.ok.cell a c e
        · by_cases w : a = p
          · subst w; exact .inr hp
          · have e : z1.o.set p (.lst acc) a ≠ none := e
            rw [Om.set_ne w] at e; exact t1.fresh a e
abbrev WP := List D → Om → (D → Om → Prop) → Prop
def SpP (K : Fg) (W : WP) : Sp := fun vs H Q _ => ∃ (z : Z) (ds : List D) (Φ : D → Om → Prop), z.h = H ∧ z.Ok K ∧ RepL K z.d vs ds ∧ W ds z.o Φ ∧ ∀ v z2 d, To K z z2 → Rep K z2.d v d → Φ d z2.o → Q v z2.h
def bCall (W : WP) (vs : List V) (ds : List D) (hd : ∀ H, RepL K H vs ds) (a : BA K) : BE K where
  t := fun X => tCall (SpP K W) vs E0 (a.t X)
  w := fun ρ ω Φ Ψ => a.w ρ ω (fun xs ω1 => W (xs ++ ds) ω1 Φ) Ψ
  ok := fun X ρ z σ Q Φ Ψ h ok r q qx => by
    refine a.ok X ρ z σ _ _ Ψ h ok r (fun xs z1 es t1 r1 h1 => ?_) qx
    exact ⟨z1, es ++ ds, Φ, rfl, t1.ok, r1.append (hd _), h1, fun v z2 d t2 => q v z2 d (t1.trans t2)⟩
abbrev bCall0 (W : WP) (a : BA K) : BE K := bCall W [] [] (fun _ => .nil) a
def startD (n : Nat) (ds : List D) : En := ds.map some ++ List.replicate (n - ds.length) none
theorem rep_start {N : List Str} {vs : List V} {ds : List D} {H : Hp} (r : RepL K H vs ds) : RepE K H (L2.start N vs) (startD N.length ds) := by
  unfold L2.start startD
  refine ⟨by simp [r.length], fun i d hi => ?_⟩
  by_cases c : i < ds.length
  · rw [List.getElem?_append_left (by simpa using c)] at hi
    rw [List.getElem?_append_left (by simpa [r.length] using c)]
    rw [List.getElem?_map] at hi
    cases e : ds[i]? with
    | none => rw [e] at hi; cases hi
    | some d' =>
      rw [e] at hi; cases hi
      obtain ⟨v, h1, h2⟩ := r.get e
      exact ⟨v, by rw [List.getElem?_map, h1]; rfl, h2⟩
  · rw [List.getElem?_append_right (by simpa using c)] at hi
    simp [List.getElem?_replicate] at hi
end
end
section
theorem hq_of {A : Around} {k : Nat} (hr : Room k A) : A.units + 64 < cLine := by have := hr.un; omega
theorem call_all {X : Cx} (hc : X.calm = true := by rfl) : CallR X (.builtin "all") (cAll (K := X.K)).r := cr_all hc
def bLit {K : Fg} (x : Str) (l : List Nat) (h : cs x = l) : BE K := bCon (.str x) (.str l) fun _ => by rw [← h]; exact Rep.cs x
section
variable {X : Cx} {W : WX} {a b c e : Expr} {es : List Expr} {A B C : BE X.K} {As : BA X.K} {pos p pos' : Pos} {x : Str}
theorem P_var (i : Nat) (hN : X.N[i]? = some x := by rfl) (hv : Vis X.env.scope x := by first | exact Or.inl rfl | exact Or.inr (Or.inl rfl) | exact Or.inr (Or.inr rfl)) (hd : (x == ("__debug__" : Str)) = false := by decide)
    (hcd : (x == ("__classdict__" : Str)) = false := by decide) : PE X (.Name x pos) ((bVar i : BE X.K).t W) := pe_var hN hv hd hcd
theorem P_int {i : Int} {j : Nat} : PE X (.Constant (.int i) j pos) ((bInt i : BE X.K).t W) := pe_int
theorem P_bl {i : Bool} {j : Nat} : PE X (.Constant (.bool i) j pos) ((bBl i : BE X.K).t W) := pe_bl
theorem P_non {j : Nat} : PE X (.Constant .none j pos) ((bNon : BE X.K).t W) := pe_non
theorem P_lit {s : Str} {l : List Nat} {h : cs s = l} {j : Nat} : PE X (.Constant (.str s) j pos) ((bLit s l h : BE X.K).t W) := pe_str
theorem P_op {op : Operator} {o : O2 X.K} (ho : OpR X (binaryOp op) o.r) (ha : PE X a (A.t W)) (hb : PE X b (B.t W)) : PE X (.BinOp a op b pos) ((bOp o A B).t W) := pe_op ho ha hb
theorem P_neg (ha : PE X a (A.t W)) : PE X (.UnaryOp .USub a pos) ((bNeg A).t W) := show PE X _ (tUn (rU fun i => .int (-i)) (A.t W)) from pe_un un_neg ha
theorem P_cmp {op : CmpOp} {o : O2 X.K} (ho : OpR X (compareOp op) o.r) (ha : PE X a (A.t W)) (hb : PE X b (B.t W)) (hm : behindInMarks op b = false := by first | exact nomark _ | rfl) : PE X (.Compare a [op] [b] pos) ((bOp o A B).t W) := pe_cmpR ho ha hb hm
theorem T_cmp {op : CmpOp} {o : O2 X.K} (ho : OpR X (compareOp op) o.r) (ha : PE X a (A.t W)) (hb : PE X b (B.t W)) (hm : behindInMarks op b = false := by first | exact nomark _ | rfl) : PT X (.Compare a [op] [b] pos) ((btC (bOp o A B)).t W) := pt_cmpR ho ha hb hm
theorem P_ix (ha : PE X a (A.t W)) (hb : PE X b (B.t W)) (hs : PlainIx b := by exact fun _ _ => rfl) : PE X (.Subscript a b pos) ((bOp oIx A B).t W) := pe_ix ix_oIx ha hb hs
theorem O_n : PO X none ((boN : BO X.K).t W) := po_none
theorem O_s (h : PE X a (A.t W)) : PO X (some a) ((boS A).t W) := po_some h
theorem P_sl {own : Bool} {L U : BO X.K} {lo hi : Option Expr} (ha : PE X a (A.t W)) (hl : PO X lo (L.t W)) (hu : PO X hi (U.t W)) : PE X (.Subscript a (.Slice lo hi none p) pos) ((bSl (oSl own) A L U).t W) := pe_slice sl_oSl ha hl hu
theorem P_one {op : BoolOp} (h : PE X a (A.t W)) : PE X (.BoolOp op [a] pos) (A.t W) := pe_one h
theorem P_and (ha : PE X a (A.t W)) (hb : PE X (.BoolOp .And (b :: es) pos) (B.t W)) : PE X (.BoolOp .And (a :: b :: es) pos) ((bAndT A B).t W) := pe_andT ha hb
theorem P_not (ha : PE X a (A.t W)) : PE X (.UnaryOp .Not a pos) ((bNotT A).t W) := pe_notT ha
theorem T_tru (ha : PE X a (A.t W)) (he : ∀ whole, isTrue a X.env whole = (do let v ← whole; standAt a.pos; holding [v] (truthy v)) := by intro _; rfl) : PT X a ((btTru A).t W) := pt_truth ha he
section
variable {t1 t2 : BT X.K}
theorem W_and1 (ha : PT X a (t1.t W)) : PW X (.BoolOp .And [a] pos) (t1.t W) := pw_and1 ha
theorem W_or1 (ha : PT X a (t1.t W)) : PW X (.BoolOp .Or [a] pos) (t1.t W) := pw_or1 ha
theorem W_and (ha : PT X a (t1.t W)) (hb : PW X (.BoolOp .And (b :: es) pos) (t2.t W)) : PW X (.BoolOp .And (a :: b :: es) pos) ((btAnd t1 t2).t W) := pw_and ha hb
theorem W_or (ha : PT X a (t1.t W)) (hb : PW X (.BoolOp .Or (b :: es) pos) (t2.t W)) : PW X (.BoolOp .Or (a :: b :: es) pos) ((btOr t1 t2).t W) := pw_or ha hb
theorem T_not (ha : PT X a (t1.t W)) : PT X (.UnaryOp .Not a pos) ((btNot t1).t W) := pt_not ha
end
theorem A_n : PA X [] ((baN : BA X.K).t W) := pa_nil
theorem A_c (ha : PE X e (A.t W)) (hr : PA X es (As.t W)) (hs : starEach (e :: es) X.env = (false, eval e X.env) :: starEach es X.env := by rfl) : PA X (e :: es) ((baC A As).t W) := pa_cons ha hr hs
theorem P_tup {x1 : _} (h : PA X es (As.t W)) : PE X (.Tuple es x1 pos) ((bTup As).t W) := pe_tup h
theorem P_lst {own : Bool} (h : PA X es (As.t W)) : PE X (.List es pos) ((bLst own As).t W) := pe_lst h
theorem P_dk : PE X (.Dict [] [] pos) ((bDnewK : BE X.K).t W) := pe_dnewK
theorem P_dt : PE X (.Dict [] [] pos) ((bDnewT : BE X.K).t W) := pe_dnewT
theorem P_frz (h : PE X e (A.t W)) : PE X e ((bFrz A).t W) := h
theorem P_B {id : String} {cb : CB X.K} (hc : CallR X (.builtin id) cb.r) (hm : X.mg x = none) (hv : bootBuiltins x = some (.builtin id)) (ha : PA X (e :: es) (As.t W)) (hg : Gl X x := by rfl) (hn : x ≠ "__name__" := by decide) (hdb : (x == ("__debug__" : Str)) = false := by decide)
    (he : starEach (e :: es) X.env = (false, eval e X.env) :: starEach es X.env := by rfl) (hpl : (backTo pos (starEach es X.env)).any (·.1) = false := by rfl) : PE X (.Call (.Name x p) (e :: es) [] pos) ((bCB cb As).t W) := pe_callB hc hg hm hv ha hn hdb he hpl
theorem P_Ty {id : String} {cb : CB X.K} (hc : CallR X (.type id) cb.r) (hm : X.mg x = none) (hv : bootBuiltins x = some (.type id)) (ha : PA X (e :: es) (As.t W)) (hg : Gl X x := by rfl) (hn : x ≠ "__name__" := by decide) (hdb : (x == ("__debug__" : Str)) = false := by decide)
    (he : starEach (e :: es) X.env = (false, eval e X.env) :: starEach es X.env := by rfl) (hpl : (backTo pos (starEach es X.env)).any (·.1) = false := by rfl) : PE X (.Call (.Name x p) (e :: es) [] pos) ((bCB cb As).t W) := pe_callTy hc hg hm hv ha hn hdb he hpl
theorem P_isi {U : Str} {Ty : String} {hU : Ty = "bool" ∨ Ty = "int" ∨ Ty = "str" ∨ Ty = "tuple" ∨ Ty = "list" ∨ Ty = "dict"} (hm : X.mg "isinstance" = none) (hm2 : X.mg U = none) (hv : bootBuiltins U = some (.type Ty)) (ha : PE X e (A.t W)) (hg : Gl X "isinstance" := by rfl) (hg2 : Gl X U := by rfl)
    (hn : U ≠ "__name__" := by decide) (hdb : (U == ("__debug__" : Str)) = false := by decide)
    (he : starEach (e :: [.Name U p]) X.env = (false, eval e X.env) :: starEach [.Name U p] X.env := by rfl) (hpl : (backTo pos (starEach [.Name U p] X.env)).any (·.1) = false := by rfl) (he2 : starEach [.Name U p] X.env = (false, eval (.Name U p) X.env) :: starEach [] X.env := by rfl) :
    PE X (.Call (.Name "isinstance" pos') [e, .Name U p] [] pos) ((bIsi Ty hU A).t W) :=
  pe_callB call_isi hg hm (by decide +kernel) (pa_cons ha (pa_cons (pe_bltn (v := .ty Ty) hg2 hm2 hv rfl hn hdb) pa_nil he2) he) (by decide) (by decide) he hpl
variable {st : Stmt} {sts : List Stmt} {S S2 : BS X.K} {G : BG X.K} {T1 : BT X.K} {I : BI X.K} {own : List (Str × Nat)}
theorem S_nil : PSs X [] ((bsNext : BS X.K).t W) := pss_nil
theorem S_one (h : PS X st (S.t W)) : PSs X [st] (S.t W) := pss_one h
theorem S_cons (h : PS X st (S.t W)) (h2 : PSs X sts (S2.t W)) : PSs X (st :: sts) ((bsSeq S S2).t W) := show PSs X _ (tSeq (S.t W) (S2.t W)) from pss_cons h h2
theorem S_cont : PS X (.Continue pos) ((bsCont : BS X.K).t W) := ps_continue
theorem S_expr (he : PE X e (A.t W)) (hs : swapsWith e none pos.line X.env = pure false := by rfl) : PS X (.Expr e pos) ((bsDrop A).t W) := ps_expr he hs
theorem S_ret (he : PE X e (A.t W)) : PS X (.Return (some e) pos) ((bsRet A).t W) := ps_ret he
theorem S_if {t u : List Stmt} (hc : PT X c (T1.t W)) (ha : PSs X t (S.t W)) (hb : PSs X u (S2.t W)) : PS X (.If c t u pos) ((bsIf T1 S S2).t W) := ps_if hc ha hb
theorem S_set {i : Nat} (hN : X.N.Nodup) (he : PE X e (A.t W)) (hi : X.N[i]? = some x := by rfl) (hx : Loc X.env.scope x := by first | exact Or.inl rfl | exact Or.inr rfl) (hs : swapsWith e (some (.Name x pos')) pos.line X.env = pure false := by rfl)
    (hf : X.fn x = true ∨ X.env.scope.names.lookup x = some .local := by first | exact .inl rfl | exact .inr rfl) : PS X (.Assign [.Name x pos'] e pos) ((bsAsg A (bgN i)).t W) := ps_set hN hi hx he hs hf
theorem S_asg {tg : Expr} (he : PE X e (A.t W)) (hg : PG X tg G.t) (hs : swapsWithSole [tg] e pos.line X.env = pure false := by rfl) (hw : swappedStores [tg] e X.env = pure none := by rfl)
    (h1 : (assignEach [tg] X.env).map (·.2) = [assign tg X.env] := by rfl) : PS X (.Assign [tg] e pos) ((bsAsg A G).t W) := ps_asg he hg hs hw h1
theorem S_while {body : List Stmt} (hp : PassesOwn (model X.prog X.w) X.A X.env X.xe) (hc : PT X c (T1.t W)) (hb : PSs X body (S.t W)) : PS X (.While c body [] pos) ((bsWhile T1 S).t W) := ps_while hp hc hb
theorem S_for {tg : Expr} {body : List Stmt} (hp : PassesOwn (model X.prog X.w) X.A X.env X.xe) (hi : PI X tg e (I.t W)) (hg : PG X tg G.t) (hb : PSs X body (S.t W)) (hc : X.calm = true := by rfl) (hs : ∀ x, foldedSetIterable e X.env x = pure x := by intro _; rfl) : PS X (.For tg e body [] pos) ((bsFor I G S).t W) := ps_for hp hc hi hg hb hs
theorem G_n (i : Nat) (hN : X.N.Nodup) (hi : X.N[i]? = some x := by rfl) (hx : Loc X.env.scope x := by first | exact Or.inl rfl | exact Or.inr rfl) (hf : X.fn x = true ∨ X.env.scope.names.lookup x = some .local := by first | exact .inl rfl | exact .inr rfl) : PG X (.Name x pos) (bgN i : BG X.K).t := pg_name hN hi hx hf
theorem Gs_n : PGs X [] (bgsN : BGs X.K).t := pgs_nil
theorem Gs_c {Gs : BGs X.K} (h1 : PG X e G.t) (h2 : PGs X es Gs.t) (hs : (assignEach (e :: es) X.env).map (·.2) = assign e X.env :: (assignEach es X.env).map (·.2) := by rfl) : PGs X (e :: es) (bgsC G Gs).t := pgs_cons h1 h2 hs
theorem G_t {Gs : BGs X.K} {k n : Nat} (h : PGs X es Gs.t) (hc : X.calm = true := by rfl) (hn : (assignEach es X.env).length = n := by rfl) (hst : (assignEach es X.env).findIdx? (·.1) = none := by rfl) : PG X (.Tuple es k pos) (bgT n Gs).t := pg_tup hc h hn hst
theorem I_seq {tg : Expr} (h : PE X e (A.t W)) : PI X tg e ((biSeq A).t W) := pi_any h
theorem I_r1 {tg : Expr} (hm : X.mg "range" = none) (ha : PA X [a] (As.t W)) (hg : Gl X "range" := by rfl) (hs : starEach [a] X.env = [(false, eval a X.env)] := by rfl) : PI X tg (.Call (.Name "range" p) [a] [] pos) ((biRng1 As).t W) := pi_range1 hg hm ha hs
theorem Ts_n : PTs X [] ((btYes : BT X.K).t W) := pts_nil
theorem Ts_1 (h : PT X c (T1.t W)) : PTs X [c] (T1.t W) := pts_one h
theorem P_lc {ow : Bool} {elt tg iter : Expr} {ifs : List Expr} {scope : Scope} {own : List (Str × Nat)} {hm : Mon G} {ho : Only G (own.map (·.2))} (hN : X.N.Nodup) (hi : PI X tg iter (I.t W)) (ok : BlkOk X.N X.env.scope scope own)
    (hg : ∀ (s : Shared) (H : Hp) (C : Addr) (cl : List (Str × Addr)) (fp : List Addr), PG (X.blk s H scope (compEnvC scope cl C X.env) fp) tg G.t) (ht : ∀ (s : Shared) (H : Hp) (C : Addr) (cl : List (Str × Addr)) (fp : List Addr), PTs (X.blk s H scope (compEnvC scope cl C X.env) fp) ifs (T1.t W0))
    (he : ∀ (s : Shared) (H : Hp) (C : Addr) (cl : List (Str × Addr)) (fp : List Addr), PE (X.blk s H scope (compEnvC scope cl C X.env) fp) elt (A.t W0)) (hs : ∀ x, foldedSetIterable iter X.env x = pure x := by intro _; rfl) (hc : X.calm = true := by rfl) :
    PE X (.ListComp elt [⟨tg, iter, ifs, 0⟩] scope pos) ((bLc ow I G T1 A (own.map (·.2)) hm ho).t W) := pe_lc hc hN hi ok hg ht he hs
theorem S_setLc {ow : Bool} {i : Nat} {y : Str} {py : Pos} {elt tg iter : Expr} {ifs : List Expr} {scope : Scope} {own : List (Str × Nat)} {hm : Mon G} {ho : Only G (own.map (·.2))} {spos : Pos} (hN : X.N.Nodup) (hi : PI X tg iter (I.t W)) (ok : BlkOk X.N X.env.scope scope own)
    (hg : ∀ (s : Shared) (H : Hp) (C : Addr) (cl : List (Str × Addr)) (fp : List Addr), PG (X.blk s H scope (compEnvC scope cl C X.env) fp) tg G.t) (ht : ∀ (s : Shared) (H : Hp) (C : Addr) (cl : List (Str × Addr)) (fp : List Addr), PTs (X.blk s H scope (compEnvC scope cl C X.env) fp) ifs (T1.t W0))
    (he : ∀ (s : Shared) (H : Hp) (C : Addr) (cl : List (Str × Addr)) (fp : List Addr), PE (X.blk s H scope (compEnvC scope cl C X.env) fp) elt (A.t W0))
    (hy : X.N[i]? = some y := by rfl) (hyl : X.env.scope.names.lookup y = some .local := by rfl) (hsw : swapsWith (.ListComp elt [⟨tg, iter, ifs, 0⟩] scope pos) (some (.Name y py)) spos.line X.env = pure true := by exact sw_true rfl rfl rfl (by decide +kernel))
    (hs : ∀ x, foldedSetIterable iter X.env x = pure x := by intro _; rfl) (hc : X.calm = true := by rfl) :
    PS X (.Assign [.Name y py] (.ListComp elt [⟨tg, iter, ifs, 0⟩] scope pos) spos) ((bsAsg (bLc ow I G T1 A (own.map (·.2)) hm ho) (bgN i)).t W) := ps_setLc hc hN hy hyl hsw hi ok hg ht he hs
end
end
section
section
variable {K : Fg}
def rEqE (K : Fg) : R2 := fun x y H Q => ∃ a b xs, x = .ref a ∧ y = .ref b ∧ ((SqT K H a xs ∧ SqT K H b []) ∨ (SqL K H a xs ∧ SqL K H b [])) ∧ Q (.bl xs.isEmpty) H
theorem op_eqE {X : Cx} (hu : X.A.units < cLine) : OpR X (compareOp .Eq) (rEqE X.K) := by
  intro pins s σ H x y v u Q I rx ry h
  obtain ⟨a, b, xs, rfl, rfl, h, q⟩ := h
  cases rx
  cases ry
  rcases h with ⟨ha, hb⟩ | ⟨ha, hb⟩
  · obtain ⟨its, rv, p, hz⟩ := I.tuple ha
    obtain ⟨its2, rv2, p2, hz2⟩ := I.tuple hb
    cases rv2
    have e := SeqAt.RcAt.tuples (A := X.A) (e := fun _ => true) (show s.heap.IsTuple a its.toArray from p) (show s.heap.IsTuple b ([] : List Value).toArray from p2) hu (fun j h1 h2 => absurd h2 (Nat.not_lt_zero _))
    refine e _ _ _ _ ⟨.bl xs.isEmpty, H, I, ?_, q⟩
    show Value.bool _ = Value.bool _
    cases rv <;> rfl
  · obtain ⟨its, rv, p, hz⟩ := I.list ha
    obtain ⟨its2, rv2, p2, hz2⟩ := I.list hb
    cases rv2
    cases rv with
    | nil =>
      have e := SeqAt.RcAt.lists (A := X.A) (e := fun _ => true) p.isList p2.isList rfl hu (fun j h1 h2 => absurd h2 (Nat.not_lt_zero _))
      exact e _ _ _ _ ⟨.bl true, H, I, rfl, q⟩
    | cons r1 r2 =>
      have e := SeqAt.RcAt.lists_lengths (A := X.A) p.isList p2.isList rfl hu
      exact e _ _ _ _ ⟨.bl false, H, I, rfl, q⟩
def oEqE : O2 K where
  r := rEqE K
  w := fun x y ω Φ => match y with
    | .tup [] => (match x with
      | .tup ds => Φ (.bl ds.isEmpty) ω
      | _ => False)
    | .lst [] => ∃ ds, lstOf ω x = some ds ∧ Φ (.bl ds.isEmpty) ω
    | _ => False
  ok := fun z x y d e Q Φ h k r1 r2 q => by
    split at h
    · split at h
      · obtain ⟨a, xs, rfl, ha, rx⟩ := rep_tup r1
        obtain ⟨b, ys, rfl, hb, ry⟩ := rep_tup r2
        cases ry
        refine ⟨a, b, xs, rfl, rfl, .inl ⟨k.fz.sqt ha, k.fz.sqt hb⟩, ?_⟩
        rw [rx.nil_iff]
        exact q _ z _ k.to (.bl _) h
      · exact h.elim
    · obtain ⟨ds, h1, h2⟩ := h
      obtain ⟨a, xs, rfl, ha, rx⟩ := lst_of k r1 h1
      obtain ⟨b, ys, rfl, hb, ry⟩ := rep_lst r2
      cases ry
      refine ⟨a, b, xs, rfl, rfl, .inr ⟨SqL.of ha, SqL.of (k.fz _ _ hb)⟩, ?_⟩
      rw [rx.nil_iff]
      exact q _ z _ k.to (.bl _) h2
    · exact h.elim
theorem op_oEqE {X : Cx} (hu : X.A.units + 64 < cLine) : OpR X (compareOp .Eq) (oEqE (K := X.K)).r := op_eqE (by omega)
end
end
section
def SzW (n : Nat) (P : Prop) : Prop := n ≤ sizeLine ∧ P
def intW (d : D) (F : Int → Prop) : Prop := match d with
  | .int i => F i
  | _ => False
def rg1W (xs : List D) (F : Int → Prop) : Prop := match xs with
  | [.int j] => (-(2 ^ 62) ≤ j ∧ j < 2 ^ 62) ∧ F j
  | _ => False
def rg2W (xs : List D) (F : Int → Int → Prop) : Prop := match xs with
  | [.int i, .int j] => (-(2 ^ 62) ≤ i ∧ i < 2 ^ 62 ∧ -(2 ^ 62) ≤ j ∧ j < 2 ^ 62) ∧ F i j
  | _ => False
theorem rngD_get {lo : Int} {n i : Nat} {d : D} (h : (rngD lo n)[i]? = some d) : i < n ∧ d = .int (lo + (i : Nat)) := by
  have hi : i < n := by
    have := (List.getElem?_eq_some_iff.mp h).1
    simpa [rngD] using this
  refine ⟨hi, ?_⟩
  simp [rngD, hi] at h
  exact h.symm
theorem rngD_len (lo : Int) (n : Nat) : (rngD lo n).length = n := by simp [rngD]
section
variable {K : Fg} {ρ : En} {ω : Om} {Φ : D → Om → Prop} {Ψ : Exn → Om → Prop} {Ft : Bool → Om → Prop} {Fa : List D → Om → Prop} {Fo : Option Int → Om → Prop} {A B C : BE K} {As : BA K} {S S2 : BS K} {T1 T2 : BT K} {G : BG K} {k : KD} {d e : D} {i j : Int} {s t : List Nat} {x y : Bool} {n : Nat}
theorem w_addS (h : s.length + t.length ≤ sizeLine) (q : Φ (.str (s ++ t)) ω) : (oAdd : O2 K).w (.str s) (.str t) ω Φ := ⟨h, q⟩
theorem w_addL {ds es : List D} (h : ds.length + es.length ≤ sizeLine) (q : Φ (.lst (ds ++ es)) ω) : (oAdd : O2 K).w (.lst ds) (.lst es) ω Φ := ⟨ds, es, rfl, rfl, h, q⟩
theorem w_neN (q : Φ (.bl false) ω) : (oNe : O2 K).w .non .non ω Φ := q
theorem w_isW {U Ty : String} (h : tyD ω d = some Ty) (q : Φ (.bl (isT Ty U)) ω) : isW1 U d ω Φ := by unfold isW1; rw [h]; exact q
section
variable {nx bk ct : En → Om → Prop} {rt : D → Om → Prop} {xc : Exn → En → Om → Prop}
theorem w_next (q : nx ρ ω) : (bsNext : BS K).w ρ ω ⟨nx, rt, bk, ct, xc⟩ := q
theorem w_seq (q : S.w ρ ω ⟨fun ρ1 ω1 => S2.w ρ1 ω1 ⟨nx, rt, bk, ct, xc⟩, rt, bk, ct, xc⟩) : (bsSeq S S2).w ρ ω ⟨nx, rt, bk, ct, xc⟩ := q
theorem w_cut (Mid : En → Om → Prop) (h1 : ∀ N : En → Om → Prop, (∀ ρ1 ω1, Mid ρ1 ω1 → N ρ1 ω1) → S.w ρ ω ⟨N, rt, bk, ct, xc⟩) (h2 : ∀ ρ1 ω1, Mid ρ1 ω1 → S2.w ρ1 ω1 ⟨nx, rt, bk, ct, xc⟩) : (bsSeq S S2).w ρ ω ⟨nx, rt, bk, ct, xc⟩ := h1 _ h2
theorem w_asg (q : A.w ρ ω (fun d ω1 => G.w d ρ ω1 nx) fun x ω1 => xc x ρ ω1) : (bsAsg A G).w ρ ω ⟨nx, rt, bk, ct, xc⟩ := q
theorem w_gN {i : Nat} {F : En → Om → Prop} (q : F (ρ.set i (some d)) ω) : (bgN i : BG K).w d ρ ω F := q
theorem w_gT {n : Nat} {gs : BGs K} {F : En → Om → Prop} {ds : List D} (h : ds.length = n) (q : gs.w ds ρ ω F) : (bgT n gs).w (.tup ds) ρ ω F := ⟨h, q⟩
theorem w_gsN {F : En → Om → Prop} (q : F ρ ω) : (bgsN : BGs K).w [] ρ ω F := q
theorem w_gsC {gs : BGs K} {F : En → Om → Prop} {ds : List D} (q : G.w d ρ ω fun ρ1 ω1 => gs.w ds ρ1 ω1 F) : (bgsC G gs).w (d :: ds) ρ ω F := q
theorem w_sifB (c : Bool) (h : ∀ F : Bool → Om → Prop, F c ω → T1.w ρ ω F fun x ω1 => xc x ρ ω1) (q : if c = true then S.w ρ ω ⟨nx, rt, bk, ct, xc⟩ else S2.w ρ ω ⟨nx, rt, bk, ct, xc⟩) : (bsIf T1 S S2).w ρ ω ⟨nx, rt, bk, ct, xc⟩ := h _ q
end
theorem lc_filter1 {chk : Om → Prop} {F : List D → Om → Prop} {i : Nat} (p : D → Bool) (f : D → D) : ∀ (ds acc : List D), acc.length + ds.length ≤ sizeLine → chk ω → (∀ d ∈ ds, ∀ Q : Bool → Om → Prop, Q (p d) ω → T1.w (ρ.set i (some d)) ω Q X0) → (∀ d ∈ ds, p d = true → ∀ Q : D → Om → Prop, Q (f d) ω → A.w (ρ.set i (some d)) ω Q X0) →
    F (acc ++ (ds.filter p).map f) ω → lcGo chk (bgN i : BG K) T1 A ρ F ds acc ω
  | [], acc, _, hc, _, _, h => ⟨hc, by simpa using h⟩
  | d :: ds, acc, hz, hc, ht, hd, h => by
    refine ⟨hc, ?_⟩
    refine ht d List.mem_cons_self _ ?_
    have hz' : acc.length + ds.length ≤ sizeLine := by simp at hz; omega
    cases e : p d with
    | true =>
      rw [if_pos rfl]
      refine hd d List.mem_cons_self e _ ⟨by simp at hz; omega, ?_⟩
      exact lc_filter1 p f ds (acc ++ [f d]) (by simp at hz ⊢; omega) hc (fun e he => ht e (List.mem_cons_of_mem _ he)) (fun e he => hd e (List.mem_cons_of_mem _ he)) (by simpa [List.filter_cons, e] using h)
    | false =>
      rw [if_neg Bool.false_ne_true]
      exact lc_filter1 p f ds acc hz' hc (fun e he => ht e (List.mem_cons_of_mem _ he)) (fun e he => hd e (List.mem_cons_of_mem _ he)) (by simpa [List.filter_cons, e] using h)
theorem for_go {chk : Om → Prop} (J : Nat → En → Om → Prop) {ds : List D}
    (hs : ∀ (i : Nat) (d : D) (ρ1 : En) (ω1 : Om) (N : En → Om → Prop), ds[i]? = some d → J i ρ1 ω1 → (∀ ρ2 ω2, J (i + 1) ρ2 ω2 → N ρ2 ω2) → chk ω1 ∧ G.w d ρ1 ω1 fun ρ2 ω2 => S.w ρ2 ω2 ⟨N, k.rt, k.nx, N, k.xc⟩)
    (he : ∀ ρ1 ω1, J ds.length ρ1 ω1 → chk ω1 ∧ k.nx ρ1 ω1) (h0 : J 0 ρ ω) : forGo chk G S k ds ρ ω := by
  have key : ∀ (m i : Nat) (ρ1 : En) (ω1 : Om), i + m = ds.length → J i ρ1 ω1 → forGo chk G S k (ds.drop i) ρ1 ω1 := by
    intro m
    induction m with
    | zero =>
      intro i ρ1 ω1 e h
      have e : i = ds.length := by omega
      subst e
      rw [List.drop_length]
      exact he ρ1 ω1 h
    | succ m ih =>
      intro i ρ1 ω1 e h
      have hi : i < ds.length := by omega
      rw [List.drop_eq_getElem_cons hi]
      exact hs i _ ρ1 ω1 _ (List.getElem?_eq_getElem hi) h fun ρ2 ω2 h2 => ih (i + 1) ρ2 ω2 (by omega) h2
  have := key ds.length 0 ρ ω (by omega) h0
  simpa using this
theorem w_while {c : BT K} (V : Nat → En → Om → Prop) (m : Nat) (h0 : V m ρ ω)
    (hs : ∀ (m : Nat) (ρ : En) (ω : Om) (N : En → Om → Prop), V m ρ ω → (∀ m' ρ2 ω2, m' < m → V m' ρ2 ω2 → N ρ2 ω2) → c.w ρ ω (fun x ω1 => if x = true then S.w ρ ω1 ⟨N, k.rt, k.nx, N, k.xc⟩ else k.nx ρ ω1) fun x ω1 => k.xc x ρ ω1) : (bsWhile c S).w ρ ω k :=
  ⟨V, ⟨m, h0⟩, fun m ρ ω h => hs m ρ ω _ h fun m' ρ2 ω2 lt h2 => ⟨m', lt, h2⟩⟩
end
theorem cut_to {α : Type} (t : List α) {k : Int} (h : 0 ≤ k) : cut t none (some k) = t.take k.toNat := by
  obtain ⟨n, rfl⟩ : ∃ n : Nat, k = n := ⟨k.toNat, by omega⟩
  unfold cut
  rw [HT.sIx_nat, HT.sIx_none, List.drop_zero, Nat.sub_zero, Int.toNat_natCast]
  by_cases c : n ≤ t.length
  · rw [Nat.min_eq_left c]
  · rw [Nat.min_eq_right (by omega), List.take_length, List.take_of_length_le (by omega)]
theorem cut_from {α : Type} (t : List α) {k : Int} (h : 0 ≤ k) : cut t (some k) none = t.drop k.toNat := by
  obtain ⟨n, rfl⟩ : ∃ n : Nat, k = n := ⟨k.toNat, by omega⟩
  unfold cut
  rw [HT.sIx_nat, HT.sIx_none, Int.toNat_natCast]
  by_cases c : n ≤ t.length
  · rw [Nat.min_eq_left c, List.take_of_length_le (by rw [List.length_drop]; exact Nat.le_refl _)]
  · rw [Nat.min_eq_right (by omega), List.drop_length, List.drop_of_length_le (by omega)]; simp
theorem cut_mid {α : Type} (t : List α) {i j : Int} (h : 0 ≤ i) (h2 : 0 ≤ j) : cut t (some i) (some j) = (t.drop i.toNat).take (j.toNat - i.toNat) := by
  obtain ⟨n, rfl⟩ : ∃ n : Nat, i = n := ⟨i.toNat, by omega⟩
  obtain ⟨m, rfl⟩ : ∃ m : Nat, j = m := ⟨j.toNat, by omega⟩
  unfold cut
  rw [HT.sIx_nat, HT.sIx_nat, Int.toNat_natCast, Int.toNat_natCast]
  by_cases c : n ≤ t.length
  · rw [Nat.min_eq_left c]
    by_cases d : m ≤ t.length
    · rw [Nat.min_eq_left d]
    · rw [Nat.min_eq_right (by omega), List.take_of_length_le (by rw [List.length_drop]; exact Nat.le_refl _), List.take_of_length_le (by rw [List.length_drop]; omega)]
  · rw [Nat.min_eq_right (show t.length ≤ n by omega), List.drop_length, List.drop_of_length_le (show t.length ≤ n by omega)]; simp
end
section
def optW {α : Type} (o : Option α) (F : α → Prop) : Prop := match o with
  | some a => F a
  | none => False
theorem x_optS {α : Type} {a : α} {F : α → Prop} : optW (some a) F = F a := rfl
def cL (o : Option Cell) (F : List D → Prop) : Prop := match o with
  | some (.lst ds) => F ds
  | _ => False
theorem x_cL {ds : List D} {F : List D → Prop} : cL (some (.lst ds)) F = F ds := rfl
def cI (o : Option Cell) (F : Str → List (Str × D) → Prop) : Prop := match o with
  | some (.ins c fs) => F c fs
  | _ => False
theorem x_cI {c : Str} {fs : List (Str × D)} {F : Str → List (Str × D) → Prop} : cI (some (.ins c fs)) F = F c fs := rfl
def cK (o : Option Cell) (F : List (Key × D) → Prop) : Prop := match o with
  | some (.dk kvs) => F kvs
  | _ => False
theorem x_cK {kvs : List (Key × D)} {F : List (Key × D) → Prop} : cK (some (.dk kvs)) F = F kvs := rfl
def varW (o : Option (Option D)) (F : D → Prop) : Prop := match o with
  | some (some d) => F d
  | _ => False
theorem lstOf_ref {ω : Om} {a : Addr} {ds : List D} : lstOf ω (.ref a) = some ds ↔ ω a = some (.lst ds) := by
  show (match ω a with | some (.lst ds) => some ds | _ => none) = some ds ↔ _
  cases e : ω a with
  | none => simp
  | some c => cases c <;> simp
theorem cL_iff {o : Option Cell} {F : List D → Prop} : cL o F ↔ ∃ ds, o = some (.lst ds) ∧ F ds := by
  unfold cL
  split
  · simp
  · rename_i h
    constructor
    · exact fun z => z.elim
    · rintro ⟨ds, rfl, _⟩
      exact absurd rfl (h ds)
theorem optW_iff {α : Type} {o : Option α} {F : α → Prop} : optW o F ↔ ∃ a, o = some a ∧ F a := by
  cases o <;> simp [optW]
mutual
def deq : D → D → Bool
  | .non, .non => true
  | .bl a, .bl b => a == b
  | .bl a, .int j => (if a then 1 else 0) == j
  | .int i, .bl b => i == (if b then 1 else 0)
  | .int i, .int j => i == j
  | .str x, .str y => x == y
  | .lst xs, .lst ys => deqL xs ys
  | .tup xs, .tup ys => deqL xs ys
  | _, _ => false
def deqL : List D → List D → Bool
  | [], [] => true
  | x :: xs, y :: ys => deq x y && deqL xs ys
  | _, _ => false
end
mutual
/-- data that may be compared -/
def eqD : D → Bool
  | .non => true
  | .bl _ => true
  | .int _ => true
  | .str s => s.all (· < 0x110000)
  | .tup ds => eqDL ds
  | .lst ds => eqDL ds
  | _ => false
def eqDL : List D → Bool
  | [] => true
  | d :: ds => eqD d && eqDL ds
end
mutual
def dpt : D → Nat
  | .tup ds => dptL ds + 1
  | .lst ds => dptL ds + 1
  | _ => 0
def dptL : List D → Nat
  | [] => 0
  | d :: ds => max (dpt d) (dptL ds)
end
mutual
def toPy : D → PyData
  | .non => .none
  | .bl b => .bool b
  | .int i => .int i
  | .str s => .str ⟨s.toArray⟩
  | .tup ds => .tuple (toPyL ds)
  | .lst ds => .list (toPyL ds)
  | _ => .none
def toPyL : List D → List PyData
  | [] => []
  | d :: ds => toPy d :: toPyL ds
end
mutual
theorem toPy_w (g : Addr → Option PyData) : ∀ d : D, eqD d = true → pyW g d = some (toPy d)
  | .non, _ => by simp [pyW, toPy]
  | .bl b, _ => by simp [pyW, toPy]
  | .int i, _ => by simp [pyW, toPy]
  | .str s, _ => by simp [pyW, toPy]
  | .tup ds, h => by
    simp only [eqD] at h
    simp [pyW, toPy, toPyL_w g ds h]
  | .lst ds, h => by
    simp only [eqD] at h
    simp [pyW, toPy, toPyL_w g ds h]
  | .ref _, h => by simp [eqD] at h
  | .scr _, h => by simp [eqD] at h
  | .exn .., h => by simp [eqD] at h
  | .clo .., h => by simp [eqD] at h
theorem toPyL_w (g : Addr → Option PyData) : ∀ ds : List D, eqDL ds = true → pyWL g ds = some (toPyL ds)
  | [], _ => by simp [pyWL, toPyL]
  | d :: ds, h => by
    simp only [eqDL, Bool.and_eq_true] at h
    simp [pyWL, toPyL, toPy_w g d h.1, toPyL_w g ds h.2]
end
mutual
theorem toPy_c : ∀ d : D, eqD d = true → (toPy d).canLay0 = true
  | .non, _ => by simp [toPy, PyData.canLay0]
  | .bl b, _ => by simp [toPy, PyData.canLay0]
  | .int i, _ => by simp [toPy, PyData.canLay0]
  | .str s, h => by
    simp only [eqD] at h
    simp only [toPy, PyData.canLay0, PyData.strOk]
    simpa using h
  | .tup ds, h => by
    simp only [eqD] at h
    simp [toPy, PyData.canLay0, toPyL_c ds h]
  | .lst ds, h => by
    simp only [eqD] at h
    simp [toPy, PyData.canLay0, toPyL_c ds h]
  | .ref _, h => by simp [eqD] at h
  | .scr _, h => by simp [eqD] at h
  | .exn .., h => by simp [eqD] at h
  | .clo .., h => by simp [eqD] at h
theorem toPyL_c : ∀ ds : List D, eqDL ds = true → PyData.canLayAll0 (toPyL ds) = true
  | [], _ => by simp [toPyL, PyData.canLayAll0]
  | d :: ds, h => by
    simp only [eqDL, Bool.and_eq_true] at h
    simp [toPyL, PyData.canLayAll0, toPy_c d h.1, toPyL_c ds h.2]
end
mutual
theorem toPy_d : ∀ d : D, (toPy d).depth = dpt d
  | .non => by simp [toPy, PyData.depth, dpt]
  | .bl b => by simp [toPy, PyData.depth, dpt]
  | .int i => by simp [toPy, PyData.depth, dpt]
  | .str s => by simp [toPy, PyData.depth, dpt]
  | .tup ds => by simp [toPy, PyData.depth, dpt, toPyL_d ds]
  | .lst ds => by simp [toPy, PyData.depth, dpt, toPyL_d ds]
  | .ref _ => by simp [toPy, PyData.depth, dpt]
  | .scr _ => by simp [toPy, PyData.depth, dpt]
  | .exn .. => by simp [toPy, PyData.depth, dpt]
  | .clo .. => by simp [toPy, PyData.depth, dpt]
theorem toPyL_d : ∀ ds : List D, PyData.depthAll (toPyL ds) = dptL ds
  | [] => by simp [toPyL, PyData.depthAll, dptL]
  | d :: ds => by simp [toPyL, PyData.depthAll, dptL, toPy_d d, toPyL_d ds]
end
theorem str_beq (s t : List Nat) : ((⟨s.toArray⟩ : Str) == ⟨t.toArray⟩) = (s == t) := by
  rw [Bool.eq_iff_iff, beq_iff_eq, beq_iff_eq, sOf_inj]
mutual
theorem toPy_e : ∀ d e : D, eqD d = true → eqD e = true → PyData.eqv (toPy d) (toPy e) = deq d e
  | .tup ds, e, h, g => by
    cases e <;> simp only [eqD] at h g <;> simp only [toPy, PyData.eqv, deq]
    all_goals first | exact toPyL_e ds _ h g | cases g
  | .lst ds, e, h, g => by
    cases e <;> simp only [eqD] at h g <;> simp only [toPy, PyData.eqv, deq]
    all_goals first | exact toPyL_e ds _ h g | cases g
  | .non, e, h, g => by cases e <;> simp only [eqD] at g <;> simp only [toPy, PyData.eqv, deq] <;> cases g
  | .bl b, e, h, g => by cases e <;> simp only [eqD] at g <;> simp only [toPy, PyData.eqv, deq] <;> cases g
  | .int i, e, h, g => by cases e <;> simp only [eqD] at g <;> simp only [toPy, PyData.eqv, deq] <;> cases g
  | .str s, e, h, g => by
    cases e <;> simp only [eqD] at g <;> simp only [toPy, PyData.eqv, deq, str_beq] <;> cases g
  | .ref _, _, h, _ => by simp [eqD] at h
  | .scr _, _, h, _ => by simp [eqD] at h
  | .exn .., _, h, _ => by simp [eqD] at h
  | .clo .., _, h, _ => by simp [eqD] at h
theorem toPyL_e : ∀ ds es : List D, eqDL ds = true → eqDL es = true → PyData.eqvAll (toPyL ds) (toPyL es) = deqL ds es
  | [], [], _, _ => by simp [toPyL, PyData.eqvAll, deqL]
  | [], e :: es, _, _ => by simp [toPyL, PyData.eqvAll, deqL]
  | d :: ds, [], _, _ => by simp [toPyL, PyData.eqvAll, deqL]
  | d :: ds, e :: es, h, g => by
    simp only [eqDL, Bool.and_eq_true] at h g
    simp [toPyL, PyData.eqvAll, deqL, toPy_e d e h.1 g.1, toPyL_e ds es h.2 g.2]
end
def eqOk (d : D) : Bool := eqD d && decide (dpt d ≤ 64)
theorem eqOk_py {d : D} (h : eqOk d = true) (ω : Om) : pyF 3 ω d = some (toPy d) ∧ SeqAt.shaped (toPy d) = true := by
  unfold eqOk at h
  rw [Bool.and_eq_true] at h
  refine ⟨toPy_w _ d h.1, ?_⟩
  unfold SeqAt.shaped
  rw [toPy_c d h.1, toPy_d d, h.2]; rfl
section
variable {K : Fg} {ρ : En} {ω : Om} {Φ : D → Om → Prop} {Ψ : Exn → Om → Prop} {Ft : Bool → Om → Prop} {Fa : List D → Om → Prop} {Fo : Option Int → Om → Prop} {A B C : BE K} {As : BA K} {S S2 : BS K} {T1 T2 : BT K} {G : BG K} {k : KD} {d e : D} {i j : Int} {s t : List Nat} {x y : Bool} {n : Nat} {a : Addr} {ds es : List D}
variable {nx bk ct : En → Om → Prop} {rt : D → Om → Prop} {xc : Exn → En → Om → Prop}
theorem cond {P Q : Prop} (h : P) : (P ∧ Q) = Q := propext ⟨fun z => z.2, fun z => ⟨h, z⟩⟩
theorem x_sz {P : Prop} (h : n ≤ 16777216) : SzW n P = P := cond (by rw [sizeLine_eq]; exact h)
theorem x_rg1 {F : Int → Prop} (h : -4611686018427387904 ≤ j ∧ j < 4611686018427387904) : rg1W [.int j] F = F j := cond ⟨by omega, by omega⟩
theorem x_rg2 {F : Int → Int → Prop} (h : (-4611686018427387904 ≤ i ∧ i < 4611686018427387904) ∧ -4611686018427387904 ≤ j ∧ j < 4611686018427387904) : rg2W [.int i, .int j] F = F i j := cond ⟨by omega, by omega, by omega, by omega⟩
theorem x_varS : varW (some (some d)) F = F d := rfl
theorem x_var {i : Nat} : (bVar i : BE K).w ρ ω Φ Ψ = varW ρ[i]? fun d => Φ d ω := rfl
theorem x_addS (h : s.length + t.length ≤ 16777216) : (oAdd : O2 K).w (.str s) (.str t) ω Φ = Φ (.str (s ++ t)) ω := cond (by rw [sizeLine_eq]; exact h)
theorem x_addT (h : ds.length + es.length ≤ 16777216) : (oAdd : O2 K).w (.tup ds) (.tup es) ω Φ = Φ (.tup (ds ++ es)) ω := cond (by rw [sizeLine_eq]; exact h)
theorem x_addL (h : ds.length + es.length ≤ 16777216) : (oAdd : O2 K).w (.lst ds) (.lst es) ω Φ = Φ (.lst (ds ++ es)) ω := propext ⟨fun ⟨a, b, h1, h2, _, z⟩ => by cases h1; cases h2; exact z, fun z => ⟨ds, es, rfl, rfl, by rw [sizeLine_eq]; exact h, z⟩⟩
theorem x_addOL (h : ds.length + es.length ≤ 16777216) : (oAddO : O2 K).w (.lst ds) (.lst es) ω Φ = ∀ a, ω a = none → Φ (.ref a) (ω.set a (.lst (ds ++ es))) := propext ⟨fun ⟨a, b, h1, h2, _, z⟩ => by cases h1; cases h2; exact z, fun z => ⟨ds, es, rfl, rfl, by rw [sizeLine_eq]; exact h, z⟩⟩
theorem x_mul (h : (-18446744073709551616 < i ∧ i < 18446744073709551616) ∨ (-18446744073709551616 < j ∧ j < 18446744073709551616)) : (oMul : O2 K).w (.int i) (.int j) ω Φ = Φ (.int (i * j)) ω := cond (.inl (by unfold CMul; omega))
theorem x_mulS (h : i ≤ 100000 ∧ -100000 ≤ i ∧ s.length ≤ 100) : (oMul : O2 K).w (.str s) (.int i) ω Φ = Φ (.str (List.replicate i.toNat s).flatten) ω := propext ⟨fun z => z.2.2.2, fun z => ⟨h.1, h.2.1, h.2.2, z⟩⟩
theorem x_mulLF (h : -100000 ≤ i ∧ i ≤ 100000 ∧ ds.length ≤ 100) : (oMulLst false : O2 K).w (.lst ds) (.int i) ω Φ = Φ (.lst (List.replicate i.toNat ds).flatten) ω := propext ⟨fun ⟨a, h1, _, _, _, z⟩ => by cases h1; exact z, fun z => ⟨ds, rfl, h.1, h.2.1, h.2.2, z⟩⟩
theorem x_mulLT (h : -100000 ≤ i ∧ i ≤ 100000 ∧ ds.length ≤ 100) : (oMulLst true : O2 K).w (.lst ds) (.int i) ω Φ = ∀ a, ω a = none → Φ (.ref a) (ω.set a (.lst (List.replicate i.toNat ds).flatten)) := propext ⟨fun ⟨a, h1, _, _, _, z⟩ => by cases h1; exact z, fun z => ⟨ds, rfl, h.1, h.2.1, h.2.2, z⟩⟩
theorem x_div (h : 0 < j ∧ j < 1073741824) : (oDiv : O2 K).w (.int i) (.int j) ω Φ = Φ (.int (i / j)) ω := cond ⟨h.1, .inl h.2⟩
theorem x_mod (h : 0 < j) : (oMod : O2 K).w (.int i) (.int j) ω Φ = Φ (.int (i % j)) ω := cond h
theorem x_pow4 : (oPow : O2 K).w (.int 10) (.int 4) ω Φ = Φ (.int 10000) ω := cond ⟨by decide, by decide, by decide⟩
theorem x_pow5 : (oPow : O2 K).w (.int 10) (.int 5) ω Φ = Φ (.int 100000) ω := cond ⟨by decide, by decide, by decide⟩
theorem x_pow6 : (oPow : O2 K).w (.int 10) (.int 6) ω Φ = Φ (.int 1000000) ω := cond ⟨by decide, by decide, by decide⟩
theorem x_pow7 : (oPow : O2 K).w (.int 10) (.int 7) ω Φ = Φ (.int 10000000) ω := cond ⟨by decide, by decide, by decide⟩
theorem x_pow9 : (oPow : O2 K).w (.int 10) (.int 9) ω Φ = Φ (.int 1000000000) ω := cond ⟨by decide, by decide, by decide⟩
theorem x_pow12 : (oPow : O2 K).w (.int 10) (.int 12) ω Φ = Φ (.int 1000000000000) ω := cond ⟨by decide, by decide, by decide⟩
theorem x_pow60 : (oPow : O2 K).w (.int 10) (.int 60) ω Φ = Φ (.int 1000000000000000000000000000000000000000000000000000000000000) ω := cond ⟨by decide, by decide, by decide⟩
theorem x_shr (h : 0 ≤ j) : (oShr : O2 K).w (.int i) (.int j) ω Φ = Φ (.int (i / 2 ^ j.toNat)) ω := cond h
theorem x_isT : (oIs false : O2 K).w (.bl x) (.bl true) ω Φ = Φ (.bl x) ω := by cases x <;> rfl
theorem x_isF : (oIs false : O2 K).w (.bl x) (.bl false) ω Φ = Φ (.bl (!x)) ω := by cases x <;> rfl
theorem x_isNT : (oIs true : O2 K).w (.bl x) (.bl true) ω Φ = Φ (.bl (!x)) ω := by cases x <;> rfl
theorem x_isNF : (oIs true : O2 K).w (.bl x) (.bl false) ω Φ = Φ (.bl x) ω := by cases x <;> rfl
def isNon : D → Bool
  | .non => true
  | _ => false
theorem x_isN : (oIs false : O2 K).w d .non ω Φ = Φ (.bl (isNon d)) ω := by cases d <;> rfl
theorem x_isNN : (oIs true : O2 K).w d .non ω Φ = Φ (.bl (!isNon d)) ω := by cases d <;> rfl
theorem x_non0 : isNon .non = true := rfl
theorem x_non1 : isNon (.bl x) = false := rfl
theorem x_non2 : isNon (.int i) = false := rfl
theorem x_non3 : isNon (.str s) = false := rfl
theorem x_non4 : isNon (.tup ds) = false := rfl
theorem x_non5 : isNon (.lst ds) = false := rfl
theorem x_non6 : isNon (.ref a) = false := rfl
theorem x_ixS (h : s.length ≤ 16777216) : (oIx : O2 K).w (.str s) (.int i) ω Φ = optW (atI s i) fun c => Φ (.str [c]) ω := by
  refine propext ⟨fun ⟨_, c, h1, z⟩ => by rw [h1]; exact z, fun z => ?_⟩
  obtain ⟨c, h1, h2⟩ := optW_iff.mp z
  exact ⟨by rw [sizeLine_eq]; exact h, c, h1, h2⟩
theorem x_ixT : (oIx : O2 K).w (.tup ds) (.int i) ω Φ = optW (atI ds i) fun d => Φ d ω := propext optW_iff.symm
theorem x_ixC {ns : List Int} : (oIx : O2 K).w (.scr ns) (.int i) ω Φ = optW (atI ns i) fun d => Φ (.int d) ω := propext optW_iff.symm
theorem x_ixL : (oIx : O2 K).w (.lst ds) (.int i) ω Φ = optW (atI ds i) fun d => Φ d ω := by
  refine propext ⟨fun ⟨_, d, h0, h1, z⟩ => by cases h0; rw [h1]; exact z, fun z => ?_⟩
  obtain ⟨c, h1, h2⟩ := optW_iff.mp z
  exact ⟨ds, c, rfl, h1, h2⟩
theorem x_ixR : (oIx : O2 K).w (.ref a) (.int i) ω Φ = cL (ω a) fun ds => optW (atI ds i) fun d => Φ d ω := by
  refine propext ⟨fun ⟨ds, d, h0, h1, z⟩ => cL_iff.mpr ⟨ds, lstOf_ref.mp h0, by rw [h1]; exact z⟩, fun z => ?_⟩
  obtain ⟨ds, h0, z⟩ := cL_iff.mp z
  obtain ⟨c, h1, h2⟩ := optW_iff.mp z
  exact ⟨ds, c, lstOf_ref.mpr h0, h1, h2⟩
theorem x_at0 {α : Type} {a : α} {r : List α} : atI (a :: r) 0 = some a := by
  rw [atI_nn (by omega)]; rfl
theorem x_at1 {α : Type} {a b : α} {r : List α} : atI (a :: b :: r) 1 = some b := by
  rw [atI_nn (by omega)]; rfl
theorem x_at2 {α : Type} {a b c : α} {r : List α} : atI (a :: b :: c :: r) 2 = some c := by
  rw [atI_nn (by omega)]; rfl
theorem x_at3 {α : Type} {a b c d : α} {r : List α} : atI (a :: b :: c :: d :: r) 3 = some d := by
  rw [atI_nn (by omega)]; rfl
theorem x_at4 {α : Type} {c0 c1 c2 c3 c4 : α} {r : List α} : atI (c0 :: c1 :: c2 :: c3 :: c4 :: r) 4 = some c4 := by
  rw [atI_nn (by omega)]; rfl
theorem x_at5 {α : Type} {c0 c1 c2 c3 c4 c5 : α} {r : List α} : atI (c0 :: c1 :: c2 :: c3 :: c4 :: c5 :: r) 5 = some c5 := by
  rw [atI_nn (by omega)]; rfl
theorem x_at6 {α : Type} {c0 c1 c2 c3 c4 c5 c6 : α} {r : List α} : atI (c0 :: c1 :: c2 :: c3 :: c4 :: c5 :: c6 :: r) 6 = some c6 := by
  rw [atI_nn (by omega)]; rfl
theorem x_at7 {α : Type} {c0 c1 c2 c3 c4 c5 c6 c7 : α} {r : List α} : atI (c0 :: c1 :: c2 :: c3 :: c4 :: c5 :: c6 :: c7 :: r) 7 = some c7 := by
  rw [atI_nn (by omega)]; rfl
theorem x_at8 {α : Type} {c0 c1 c2 c3 c4 c5 c6 c7 c8 : α} {r : List α} : atI (c0 :: c1 :: c2 :: c3 :: c4 :: c5 :: c6 :: c7 :: c8 :: r) 8 = some c8 := by
  rw [atI_nn (by omega)]; rfl
theorem x_at9 {α : Type} {c0 c1 c2 c3 c4 c5 c6 c7 c8 c9 : α} {r : List α} : atI (c0 :: c1 :: c2 :: c3 :: c4 :: c5 :: c6 :: c7 :: c8 :: c9 :: r) 9 = some c9 := by
  rw [atI_nn (by omega)]; rfl
theorem x_at10 {α : Type} {c0 c1 c2 c3 c4 c5 c6 c7 c8 c9 c10 : α} {r : List α} : atI (c0 :: c1 :: c2 :: c3 :: c4 :: c5 :: c6 :: c7 :: c8 :: c9 :: c10 :: r) 10 = some c10 := by
  rw [atI_nn (by omega)]; rfl
theorem x_slS {own : Bool} {lo hi : Option Int} (h : s.length ≤ 16777216) : (oSl own : O3 K).w (.str s) lo hi ω Φ = Φ (.str (cut s lo hi)) ω := cond (by rw [sizeLine_eq]; exact h)
theorem x_slL {lo hi : Option Int} : (oSl false : O3 K).w (.lst ds) lo hi ω Φ = Φ (.lst (cut ds lo hi)) ω := propext ⟨fun ⟨_, h, z⟩ => by cases h; exact z, fun z => ⟨ds, rfl, z⟩⟩
theorem x_slLO {lo hi : Option Int} : (oSl true : O3 K).w (.lst ds) lo hi ω Φ = ∀ a, ω a = none → Φ (.ref a) (ω.set a (.lst (cut ds lo hi))) := propext ⟨fun ⟨_, h, z⟩ => by cases h; exact z, fun z => ⟨ds, rfl, z⟩⟩
theorem x_slC {own : Bool} {ns : List Int} {lo hi : Option Int} : (oSl own : O3 K).w (.scr ns) lo hi ω Φ = Φ (.lst ((cut ns lo hi).map .int)) ω := rfl
theorem x_slR {lo hi : Option Int} : (oSl false : O3 K).w (.ref a) lo hi ω Φ = cL (ω a) fun ds => Φ (.lst (cut ds lo hi)) ω := by
  refine propext ⟨fun ⟨ds, h0, z⟩ => cL_iff.mpr ⟨ds, lstOf_ref.mp h0, z⟩, fun z => ?_⟩
  obtain ⟨ds, h0, z⟩ := cL_iff.mp z
  exact ⟨ds, lstOf_ref.mpr h0, z⟩
theorem x_slRO {lo hi : Option Int} : (oSl true : O3 K).w (.ref a) lo hi ω Φ = cL (ω a) fun ds => ∀ b, ω b = none → Φ (.ref b) (ω.set b (.lst (cut ds lo hi))) := by
  refine propext ⟨fun ⟨ds, h0, z⟩ => cL_iff.mpr ⟨ds, lstOf_ref.mp h0, z⟩, fun z => ?_⟩
  obtain ⟨ds, h0, z⟩ := cL_iff.mp z
  exact ⟨ds, lstOf_ref.mpr h0, z⟩
theorem x_in {c : Nat} : (oIn false : O2 K).w (.str [c]) (.str t) ω Φ = Φ (.bl (decide (c ∈ t))) ω := propext ⟨fun ⟨_, h, z⟩ => by cases h; exact z, fun z => ⟨c, rfl, z⟩⟩
theorem x_nin {c : Nat} : (oIn true : O2 K).w (.str [c]) (.str t) ω Φ = Φ (.bl (!decide (c ∈ t))) ω := propext ⟨fun ⟨_, h, z⟩ => by cases h; exact z, fun z => ⟨c, rfl, z⟩⟩
theorem x_truS (h : s.length ≤ 16777216) : truW (.str s) ω Ft = Ft (!s.isEmpty) ω := cond (by rw [sizeLine_eq]; exact h)
theorem x_lenS (h : s.length ≤ 16777216) : (cLen : CB K).w [.str s] ω Φ = Φ (.int s.length) ω := cond (by rw [sizeLine_eq]; exact h)
theorem x_lenR : (cLen : CB K).w [.ref a] ω Φ = cL (ω a) fun ds => Φ (.int ds.length) ω := propext cL_iff.symm
theorem x_isW0 {U : String} : isW1 U .non ω Φ = Φ (.bl (isT "NoneType" U)) ω := rfl
theorem x_isW1 {U : String} : isW1 U (.bl x) ω Φ = Φ (.bl (isT "bool" U)) ω := rfl
theorem x_isW2 {U : String} : isW1 U (.int i) ω Φ = Φ (.bl (isT "int" U)) ω := rfl
theorem x_isW3 {U : String} : isW1 U (.str s) ω Φ = Φ (.bl (isT "str" U)) ω := rfl
theorem x_isW4 {U : String} : isW1 U (.tup ds) ω Φ = Φ (.bl (isT "tuple" U)) ω := rfl
theorem x_isW5 {U : String} : isW1 U (.lst ds) ω Φ = Φ (.bl (isT "list" U)) ω := rfl
theorem x_isTii : isT "int" "int" = true := by decide
theorem x_isTbi : isT "bool" "int" = true := by decide
theorem x_isTbb : isT "bool" "bool" = true := by decide
theorem x_isTib : isT "int" "bool" = false := by decide
theorem x_isTss : isT "str" "str" = true := by decide
theorem x_isTtt : isT "tuple" "tuple" = true := by decide
theorem x_isTll : isT "list" "list" = true := by decide
theorem x_isTnt : isT "NoneType" "tuple" = false := by decide
theorem x_isTst : isT "str" "tuple" = false := by decide
theorem x_isTit : isT "int" "tuple" = false := by decide
theorem x_isTlt : isT "list" "tuple" = false := by decide
theorem x_isTbt : isT "bool" "tuple" = false := by decide
theorem x_isTni : isT "NoneType" "int" = false := by decide
theorem x_isTns : isT "NoneType" "str" = false := by decide
theorem x_isTis : isT "int" "str" = false := by decide
theorem x_isTbs : isT "bool" "str" = false := by decide
theorem x_isTts : isT "tuple" "str" = false := by decide
theorem x_isTls : isT "list" "str" = false := by decide
theorem x_isTsi : isT "str" "int" = false := by decide
theorem x_isTti : isT "tuple" "int" = false := by decide
theorem x_isTli : isT "list" "int" = false := by decide
theorem x_isTtl : isT "tuple" "list" = false := by decide
theorem x_gT {gs : BGs K} {F : En → Om → Prop} (h : ds.length = n) : (bgT n gs).w (.tup ds) ρ ω F = gs.w ds ρ ω F := cond h
theorem x_itR {Fi : List D → (Om → Prop) → Om → Prop} : itemsW (.ref a) ω Fi = cL (ω a) fun ds => Fi ds (fun ω' => ω' a = some (.lst ds)) ω := propext cL_iff.symm
theorem x_truR : truW (.ref a) ω Ft = match ω a with | some (.lst ds) => Ft (!ds.isEmpty) ω | some (.dk kvs) => Ft (!kvs.isEmpty) ω | _ => False := rfl
theorem x_setS {c : Cell} : ω.set a c a = some c := Om.set_same
theorem x_setN {b : Addr} {c : Cell} (h : b ≠ a) : ω.set a c b = ω b := Om.set_ne h
theorem iteI {c : Prop} [Decidable c] {P Q : Prop} (h1 : c → P) (h2 : ¬ c → Q) : if c then P else Q := by
  by_cases h : c
  · rw [if_pos h]; exact h1 h
  · rw [if_neg h]; exact h2 h
theorem start_def (n : Nat) (ds : List D) : startD n ds = ds.map some ++ List.replicate (n - ds.length) none := rfl
theorem x_it {i : Int} {F : Int → Prop} : (intW (.int i) F) = (F i) := rfl
theorem x_con {v : V} {hr : ∀ H, Rep K H v d} : ((bCon v d hr : BE K).w ρ ω Φ Ψ) = (Φ d ω) := rfl
theorem x_lit {x : Str} {l : List Nat} {h : cs x = l} : ((bLit x l h : BE K).w ρ ω Φ Ψ) = (Φ (.str l) ω) := rfl
theorem x_int : ((bInt i : BE K).w ρ ω Φ Ψ) = (Φ (.int i) ω) := rfl
theorem x_op {o : O2 K} : ((bOp o A B).w ρ ω Φ Ψ) = (A.w ρ ω (fun x ω1 => B.w ρ ω1 (fun y ω2 => o.w x y ω2 Φ) Ψ) Ψ) := rfl
theorem x_add : ((oAdd : O2 K).w (.int i) (.int j) ω Φ) = (Φ (.int (i + j)) ω) := rfl
theorem x_sub : ((oSub : O2 K).w (.int i) (.int j) ω Φ) = (Φ (.int (i - j)) ω) := rfl
theorem x_neg : ((bNeg A).w ρ ω Φ Ψ) = (A.w ρ ω (fun x ω1 => intW x fun i => Φ (.int (-i)) ω1) Ψ) := rfl
theorem x_lt : ((oLt : O2 K).w (.int i) (.int j) ω Φ) = (Φ (.bl (decide (i < j))) ω) := rfl
theorem x_le : ((oLe : O2 K).w (.int i) (.int j) ω Φ) = (Φ (.bl (decide (i ≤ j))) ω) := rfl
theorem x_gt : ((oGt : O2 K).w (.int i) (.int j) ω Φ) = (Φ (.bl (decide (j < i))) ω) := rfl
theorem x_ge : ((oGe : O2 K).w (.int i) (.int j) ω Φ) = (Φ (.bl (decide (j ≤ i))) ω) := rfl
theorem x_ltS : ((oLt : O2 K).w (.str s) (.str t) ω Φ) = (Φ (.bl (ltS s t)) ω) := rfl
theorem x_leS : ((oLe : O2 K).w (.str s) (.str t) ω Φ) = (Φ (.bl (!ltS t s)) ω) := rfl
theorem x_gtS : ((oGt : O2 K).w (.str s) (.str t) ω Φ) = (Φ (.bl (ltS t s)) ω) := rfl
theorem x_geS : ((oGe : O2 K).w (.str s) (.str t) ω Φ) = (Φ (.bl (!ltS s t)) ω) := rfl
theorem x_eqI : ((oEq : O2 K).w (.int i) (.int j) ω Φ) = (Φ (.bl (decide (i = j))) ω) := rfl
theorem x_eqS : ((oEq : O2 K).w (.str s) (.str t) ω Φ) = (Φ (.bl (decide (s = t))) ω) := rfl
theorem x_eqB : ((oEq : O2 K).w (.bl x) (.bl y) ω Φ) = (Φ (.bl (decide (x = y))) ω) := rfl
theorem x_neI : ((oNe : O2 K).w (.int i) (.int j) ω Φ) = (Φ (.bl (!decide (i = j))) ω) := rfl
theorem x_neS : ((oNe : O2 K).w (.str s) (.str t) ω Φ) = (Φ (.bl (!decide (s = t))) ω) := rfl
theorem x_neB : ((oNe : O2 K).w (.bl x) (.bl y) ω Φ) = (Φ (.bl (!decide (x = y))) ω) := rfl
theorem x_eqN : ((oEq : O2 K).w .non .non ω Φ) = (Φ (.bl true) ω) := rfl
theorem x_neN : ((oNe : O2 K).w .non .non ω Φ) = (Φ (.bl false) ω) := rfl
theorem x_eqIN : ((oEq : O2 K).w (.int i) .non ω Φ) = (Φ (.bl false) ω) := rfl
theorem x_eqNI : ((oEq : O2 K).w .non (.int i) ω Φ) = (Φ (.bl false) ω) := rfl
theorem x_eqSN : ((oEq : O2 K).w (.str s) .non ω Φ) = (Φ (.bl false) ω) := rfl
theorem x_eqNS : ((oEq : O2 K).w .non (.str s) ω Φ) = (Φ (.bl false) ω) := rfl
theorem x_isB : ((oIs false : O2 K).w (.bl x) (.bl y) ω Φ) = (Φ (.bl (decide (x = y))) ω) := rfl
theorem x_isNB : ((oIs true : O2 K).w (.bl x) (.bl y) ω Φ) = (Φ (.bl (!decide (x = y))) ω) := rfl
theorem x_sl {own : Bool} {L U : BO K} : ((bSl (oSl own) A L U).w ρ ω Φ Ψ) = (A.w ρ ω (fun x ω1 => L.w ρ ω1 (fun i ω2 => U.w ρ ω2 (fun j ω3 => (oSl own : O3 K).w x i j ω3 Φ) Ψ) Ψ) Ψ) := rfl
theorem x_oN : ((boN : BO K).w ρ ω Fo Ψ) = (Fo none ω) := rfl
theorem x_oS : ((boS A).w ρ ω Fo Ψ) = (A.w ρ ω (fun x ω1 => intW x fun i => Fo (some i) ω1) Ψ) := rfl
theorem x_slT {own : Bool} {ds : List D} {lo hi : Option Int} : ((oSl own : O3 K).w (.tup ds) lo hi ω Φ) = (Φ (.tup (cut ds lo hi)) ω) := rfl
theorem x_baN : ((baN : BA K).w ρ ω Fa Ψ) = (Fa [] ω) := rfl
theorem x_baC : ((baC A As).w ρ ω Fa Ψ) = (A.w ρ ω (fun x ω1 => As.w ρ ω1 (fun xs ω2 => Fa (x :: xs) ω2) Ψ) Ψ) := rfl
theorem x_tup : ((bTup As).w ρ ω Φ Ψ) = (As.w ρ ω (fun xs ω1 => SzW xs.length (Φ (.tup xs) ω1)) Ψ) := rfl
theorem x_lst : ((bLst false As).w ρ ω Φ Ψ) = (As.w ρ ω (fun xs ω1 => SzW xs.length (Φ (.lst xs) ω1)) Ψ) := rfl
theorem x_lstO : ((bLst true As).w ρ ω Φ Ψ) = (As.w ρ ω (fun xs ω1 => SzW xs.length (∀ a, ω1 a = none → Φ (.ref a) (ω1.set a (.lst xs)))) Ψ) := rfl
theorem x_tru : ((btTru A).w ρ ω Ft Ψ) = (A.w ρ ω (fun x ω1 => truW x ω1 Ft) Ψ) := rfl
theorem x_truB : (truW (.bl x) ω Ft) = (Ft x ω) := rfl
theorem x_truN : (truW .non ω Ft) = (Ft false ω) := rfl
theorem x_truI : (truW (.int i) ω Ft) = (Ft (i != 0) ω) := rfl
theorem x_truT {ds : List D} : (truW (.tup ds) ω Ft) = (Ft (!ds.isEmpty) ω) := rfl
theorem x_truL {ds : List D} : (truW (.lst ds) ω Ft) = (Ft (!ds.isEmpty) ω) := rfl
theorem x_tC : ((btC A).w ρ ω Ft Ψ) = (A.w ρ ω (fun x ω1 => blW x fun b => Ft b ω1) Ψ) := rfl
theorem x_tB : ((btB A).w ρ ω Ft Ψ) = (A.w ρ ω (fun x ω1 => blW x fun b => Ft b ω1) Ψ) := rfl
theorem x_tand : ((btAnd T1 T2).w ρ ω Ft Ψ) = (T1.w ρ ω (fun c ω1 => if c = true then T2.w ρ ω1 Ft Ψ else Ft false ω1) Ψ) := rfl
theorem x_tor : ((btOr T1 T2).w ρ ω Ft Ψ) = (T1.w ρ ω (fun c ω1 => if c = true then Ft true ω1 else T2.w ρ ω1 Ft Ψ) Ψ) := rfl
theorem x_tnot : ((btNot T1).w ρ ω Ft Ψ) = (T1.w ρ ω (fun c ω1 => Ft (!c) ω1) Ψ) := rfl
theorem x_yes : ((btYes : BT K).w ρ ω Ft Ψ) = (Ft true ω) := rfl
theorem x_and : ((bAndT A B).w ρ ω Φ Ψ) = (A.w ρ ω (fun x ω1 => truW x ω1 fun c ω2 => if c = true then B.w ρ ω2 Φ Ψ else Φ x ω2) Ψ) := rfl
theorem x_or : ((bOrT A B).w ρ ω Φ Ψ) = (A.w ρ ω (fun x ω1 => truW x ω1 fun c ω2 => if c = true then Φ x ω2 else B.w ρ ω2 Φ Ψ) Ψ) := rfl
theorem x_not : ((bNotT A).w ρ ω Φ Ψ) = (A.w ρ ω (fun x ω1 => truW x ω1 fun c ω2 => Φ (.bl (!c)) ω2) Ψ) := rfl
theorem x_if : ((bIf T1 A B).w ρ ω Φ Ψ) = (T1.w ρ ω (fun x ω1 => if x = true then A.w ρ ω1 Φ Ψ else B.w ρ ω1 Φ Ψ) Ψ) := rfl
theorem x_chain {o p : O2 K} : ((bChain o p A B C).w ρ ω Φ Ψ) = (A.w ρ ω (fun x ω1 => B.w ρ ω1 (fun y ω2 => o.w x y ω2 fun r ω3 => blW r fun k => if k = true then C.w ρ ω3 (fun z ω4 => p.w y z ω4 Φ) Ψ else Φ (.bl false) ω3) Ψ) Ψ) := rfl
theorem x_bl {F : Bool → Prop} : (blW (.bl x) F) = (F x) := rfl
theorem x_cb {c : CB K} : ((bCB c As).w ρ ω Φ Ψ) = (As.w ρ ω (fun xs ω1 => c.w xs ω1 Φ) Ψ) := rfl
theorem x_lenT {ds : List D} : ((cLen : CB K).w [.tup ds] ω Φ) = (Φ (.int ds.length) ω) := rfl
theorem x_lenL {ds : List D} : ((cLen : CB K).w [.lst ds] ω Φ) = (Φ (.int ds.length) ω) := rfl
theorem x_lenC {ns : List Int} : ((cLen : CB K).w [.scr ns] ω Φ) = (Φ (.int ns.length) ω) := rfl
theorem x_max : ((cMax2 : CB K).w [.int i, .int j] ω Φ) = (Φ (.int (max i j)) ω) := rfl
theorem x_min : ((cMin2 : CB K).w [.int i, .int j] ω Φ) = (Φ (.int (min i j)) ω) := rfl
theorem x_isi {U : String} {hU} : ((bIsi U hU A).w ρ ω Φ Ψ) = (A.w ρ ω (fun x ω1 => isW1 U x ω1 Φ) Ψ) := rfl
theorem x_frz : ((bFrz A).w ρ ω Φ Ψ) = (A.w ρ ω (fun d ω1 => match d with | .ref a => (match ω1 a with | some (.lst ds) => Φ (.lst ds) (ω1.del a) | _ => Φ (.ref a) ω1) | d => Φ d ω1) Ψ) := rfl
theorem x_next : ((bsNext : BS K).w ρ ω ⟨nx, rt, bk, ct, xc⟩) = (nx ρ ω) := rfl
theorem x_break : ((bsBreak : BS K).w ρ ω ⟨nx, rt, bk, ct, xc⟩) = (bk ρ ω) := rfl
theorem x_cont : ((bsCont : BS K).w ρ ω ⟨nx, rt, bk, ct, xc⟩) = (ct ρ ω) := rfl
theorem x_seq : ((bsSeq S S2).w ρ ω ⟨nx, rt, bk, ct, xc⟩) = (S.w ρ ω ⟨fun ρ1 ω1 => S2.w ρ1 ω1 ⟨nx, rt, bk, ct, xc⟩, rt, bk, ct, xc⟩) := rfl
theorem x_asg : ((bsAsg A G).w ρ ω ⟨nx, rt, bk, ct, xc⟩) = (A.w ρ ω (fun d ω1 => G.w d ρ ω1 nx) fun x ω1 => xc x ρ ω1) := rfl
theorem x_gsN {F : En → Om → Prop} : ((bgsN : BGs K).w [] ρ ω F) = (F ρ ω) := rfl
theorem x_gsC {gs : BGs K} {F : En → Om → Prop} {ds : List D} : ((bgsC G gs).w (d :: ds) ρ ω F) = (G.w d ρ ω fun ρ1 ω1 => gs.w ds ρ1 ω1 F) := rfl
theorem x_drop : ((bsDrop A).w ρ ω ⟨nx, rt, bk, ct, xc⟩) = (A.w ρ ω (fun _ ω1 => nx ρ ω1) fun x ω1 => xc x ρ ω1) := rfl
theorem x_ret : ((bsRet A).w ρ ω ⟨nx, rt, bk, ct, xc⟩) = (A.w ρ ω rt fun x ω1 => xc x ρ ω1) := rfl
theorem x_retN : ((bsRetN : BS K).w ρ ω ⟨nx, rt, bk, ct, xc⟩) = (rt .non ω) := rfl
theorem x_sif : ((bsIf T1 S S2).w ρ ω ⟨nx, rt, bk, ct, xc⟩) = (T1.w ρ ω (fun x ω1 => if x = true then S.w ρ ω1 ⟨nx, rt, bk, ct, xc⟩ else S2.w ρ ω1 ⟨nx, rt, bk, ct, xc⟩) fun x ω1 => xc x ρ ω1) := rfl
theorem x_for {I : BI K} : ((bsFor I G S).w ρ ω ⟨nx, rt, bk, ct, xc⟩) = (I.w ρ ω (fun ds chk ω1 => forGo chk G S ⟨nx, rt, bk, ct, xc⟩ ds ρ ω1) fun x ω1 => xc x ρ ω1) := rfl
theorem x_seqI {Fi : List D → (Om → Prop) → Om → Prop} : ((biSeq A).w ρ ω Fi Ψ) = (A.w ρ ω (fun x ω1 => itemsW x ω1 Fi) Ψ) := rfl
theorem x_itL {Fi : List D → (Om → Prop) → Om → Prop} {ds : List D} : (itemsW (.lst ds) ω Fi) = (Fi ds (fun _ => True) ω) := rfl
theorem x_itT {Fi : List D → (Om → Prop) → Om → Prop} {ds : List D} : (itemsW (.tup ds) ω Fi) = (Fi ds (fun _ => True) ω) := rfl
theorem x_itC {Fi : List D → (Om → Prop) → Om → Prop} {ns : List Int} : (itemsW (.scr ns) ω Fi) = (Fi (ns.map .int) (fun _ => True) ω) := rfl
theorem x_itS {Fi : List D → (Om → Prop) → Om → Prop} : (itemsW (.str s) ω Fi) = (Fi (s.map fun c => .str [c]) (fun _ => True) ω) := rfl
theorem x_r1 {Fi : List D → (Om → Prop) → Om → Prop} : ((biRng1 As).w ρ ω Fi Ψ) = (As.w ρ ω (fun xs ω1 => rg1W xs fun j => Fi (rngD 0 j.toNat) (fun _ => True) ω1) Ψ) := rfl
theorem x_r2 {Fi : List D → (Om → Prop) → Om → Prop} : ((biRng2 As).w ρ ω Fi Ψ) = (As.w ρ ω (fun xs ω1 => rg2W xs fun i j => Fi (rngD i (j - i).toNat) (fun _ => True) ω1) Ψ) := rfl
theorem x_dk : ((bDnewK : BE K).w ρ ω Φ Ψ) = (∀ a, ω a = none → Φ (.ref a) (ω.set a (.dk []))) := rfl
theorem x_dt : ((bDnewT : BE K).w ρ ω Φ Ψ) = (∀ a, ω a = none → Φ (.ref a) (ω.set a (.dt []))) := rfl
theorem x_lc {I : BI K} {vs : List Nat} {hm ho} : ((bLc false I G T1 A vs hm ho).w ρ ω Φ Ψ) = (I.w ρ ω (fun ds chk ω1 => lcGo chk G T1 A (wipeD ρ vs) (fun out ω2 => Φ (.lst out) ω2) ds [] ω1) Ψ) := rfl
theorem x_lcO {I : BI K} {vs : List Nat} {hm ho} : ((bLc true I G T1 A vs hm ho).w ρ ω Φ Ψ) = (I.w ρ ω (fun ds chk ω1 => lcGo chk G T1 A (wipeD ρ vs) (fun out ω2 => ∀ a, ω2 a = none → Φ (.ref a) (ω2.set a (.lst out))) ds [] ω1) Ψ) := rfl
end
end
section
section
variable {P : Program} {w : World} {K : Fg} {mg : Str → Option Value} {base : Heap}
def OkP (P : Program) (w : World) (K : Fg) (mg : Str → Option Value) (base : Heap) (k : Nat) (p : Str × Option Str) (ps : List Str) (W : WP) : Prop :=
  ∃ fd, FnOk P w K mg base CX0 k (He.fAd K p) fd ps (SpP K W) ∧ Binds K fd ps [] ∧ ∃ oc od osl, K.lookup (He.fAd K p) = some ⟨oc, od, .func fd, osl⟩
abbrev FnD (K : Fg) (name qual : Str) (st : Stmt) (dvs : List V) (p : Str × Option Str) : Prop := ∃ fd, FunD K name qual (defArgs st) (defBody st) (defScope st) dvs [] (He.fAd K p) fd
theorem fnPD {name qual : Str} {st : Stmt} {p : Str × Option Str} {N ps : List Str} {k : Nat} (F : FnD K name qual st [] p) (S : FnScope N ps (defScope st)) {W : WP} {n : Nat} (hn : N.length = n) (B : BS K)
    (hbi : ∀ (kV doc pm : Value) (an : Option Addr) (cdv ct : Value) (us : List Value), us.length = ps.length → bindArgs (PySem.W.fnOf name qual (defArgs st) (defBody st) (defScope st) .none kV doc pm an cdv ct) ⟨us, []⟩ = pure (ps.zip us))
    (len : ∀ ds ω Φ, W ds ω Φ → ds.length = ps.length)
    (hb : ∀ (f : Addr) (cdv : Value) (A : Around) (outer : List Env) (s : Shared) (H : Hp) (E : XK), Room k (A.deeper (PyProof.Rows.envOfC qual (defScope st) s.heap.objs.size f cdv)) → PSs (cxOf CX0 P w K mg base N qual (defScope st) f cdv A outer s H E).nox (defBody st) (B.t W0))
    (hw : ∀ ds ω Φ, W ds ω Φ → B.w (startD n ds) ω ⟨fun _ ω => Φ .non ω, Φ, fun _ _ => False, fun _ _ => False, fun _ _ _ => False⟩) : OkP P w K mg base (k + 1) p ps W := by
  obtain ⟨fd, F⟩ := F
  have lk : ∃ oc od osl, K.lookup (He.fAd K p) = some ⟨oc, od, .func fd, osl⟩ := by
    obtain ⟨oc, od, _, _, _, _, _, _, _, osl, _, h, _⟩ := F.ex
    exact ⟨oc, od, osl, h⟩
  refine ⟨fd, F.ok S (fun vs H Q E h => ?_) (fun cdv A outer s H vs Q E hr h => ⟨B.t W0, PSs.nox (hb _ cdv A outer s H E hr), ?_⟩), F.bindsN hbi, lk⟩
  · obtain ⟨z, ds, Φ, _, _, r, hW, _⟩ := h
    rw [r.length]
    exact len ds _ _ hW
  · obtain ⟨z, ds, Φ, rfl, ok, r, hW, q⟩ := h
    subst hn
    exact B.ok W0 (startD N.length ds) z (L2.start N vs) _ _ (hw ds z.o Φ hW) ok (rep_start r) ⟨fun σ2 ρ2 z2 t _ h2 => q .non z2 .non t .non h2, fun v d z2 t r2 h2 => q v z2 d t r2 h2, fun _ _ _ _ _ h => h.elim, fun _ _ _ _ _ h => h.elim, fun _ _ _ _ _ _ _ _ _ h => h.elim⟩
end
section
variable {X : Cx} {W : WX} {x : Str} {e : Expr} {es : List Expr} {As : BA X.K} {p pos : Pos}
theorem P_callE {k : Nat} {ps : List Str} {Wf : WP} (F : OkP X.prog X.w X.K X.mg X.base k (x, none) ps Wf) (hr : Room k X.A) (hm : X.mg x = some (.ref (He.ga X.K x))) (hk : PySem.W.keepIn X.K (.ref (He.ga X.K x)) = true)
    (ha : PA X (e :: es) (As.t W)) (hg : Gl X x := by rfl) (hdb : (x == ("__debug__" : Str)) = false := by decide) (he : starEach (e :: es) X.env = (false, eval e X.env) :: starEach es X.env := by rfl) (hpl : (backTo pos (starEach es X.env)).any (·.1) = false := by rfl) :
    PE X (.Call (.Name x p) (e :: es) [] pos) ((bCall0 Wf As).t W) := by
  obtain ⟨fd, F1, F2, _⟩ := F
  exact pe_call F1 hr hg hm hk F2 .nil pass0 ha hdb he hpl
theorem P_globI {i : Int} {d : D} {hr : ∀ H, Rep X.K H (.int i) d} (hm : ∃ t, X.mg x = some (.int i t)) (hg : Gl X x := by rfl) (hd : (x == ("__debug__" : Str)) = false := by decide) : PE X (.Name x pos) ((bCon (.int i) d hr : BE X.K).t W) := by
  obtain ⟨t, hm⟩ := hm
  exact pe_glob hg hm ⟨_, rfl⟩ hd
end
def WLaw (n : Nat) : WP := fun ds _ Φ => ∃ ns : List Int, ds = [.scr ns] ∧ ns.length ≤ n ∧ (∀ z ∈ ns, Builtin.Int.intBits z ≤ 1048576) ∧ ∀ ω', Φ (.bl true) ω'
theorem sql_nt {K : Fg} {H : Hp} {a : Addr} {xs : List V} (h : SqL K H a xs) : ∃ d : Hp, (∀ b o, d b = some o → H b = some o) ∧ (∀ b o, d b = some o → NT o) ∧ SqL K d a xs := by
  rcases h with (h | ⟨o, h⟩) | h
  · refine ⟨fun b => if b = a then some (.lst xs) else none, fun b o e => ?_, fun b o e => ?_, .inl (.inl (if_pos rfl))⟩
    · dsimp only at e
      by_cases c : b = a
      · rw [if_pos c] at e; rw [c, h]; exact e
      · rw [if_neg c] at e; cases e
    · dsimp only at e
      by_cases c : b = a
      · rw [if_pos c] at e; cases e; intro _ z; cases z
      · rw [if_neg c] at e; cases e
  · refine ⟨fun b => if b = a then some (.frz o (.lst xs)) else none, fun b o' e => ?_, fun b o' e => ?_, .inl (.inr ⟨o, if_pos rfl⟩)⟩
    · dsimp only at e
      by_cases c : b = a
      · rw [if_pos c] at e; rw [c, h]; exact e
      · rw [if_neg c] at e; cases e
    · dsimp only at e
      by_cases c : b = a
      · rw [if_pos c] at e; cases e; intro _ z; cases z
      · rw [if_neg c] at e; cases e
  · exact ⟨fun _ => none, fun b o e => (nomatch e), fun b o e => (nomatch e), .inr h⟩
theorem law_sp {K : Fg} {n : Nat} {H : Hp} {a : Addr} {ns : List Int} (h1 : ns.length ≤ n) (h2 : ∀ z ∈ ns, Builtin.Int.intBits z ≤ 1048576) (hS : SqL K H a (ns.map V.int)) (hT : NdefX.TabsN (tabsN K) H) (E : XK) : SpP K (WLaw n) [.ref a] H (fun v _ => v = .bl true) E := by
  obtain ⟨d, d1, d2, d3⟩ := sql_nt hS
  refine ⟨⟨d, H, fun _ => none, tabsN K⟩, [.scr ns], fun d _ => d = .bl true, rfl, ⟨d1, fun b c e => (nomatch e), hT, rfl, d2⟩, .cons (.scr d3) .nil, ⟨ns, rfl, h1, h2, fun _ => rfl⟩, fun v z2 d t r h => ?_⟩
  subst h; cases r; rfl
structure TabK (K : Fg) (tf : List He.Defn) : Prop where
  hd : ∀ p ∈ tf, PySem.W.codeHdIn K (He.cT K p).1 (He.cT K p).2 = true
  out : ∀ p ∈ tf, K.lookup (He.cT K p).2 = none
  all : ∀ p ∈ tabsOf K, ∃ q ∈ tf, (He.cT K q).2 = p.1
  uni : ∀ p ∈ tabsOf K, ∀ q ∈ tabsOf K, p.1 = q.1 → p.2 = q.2
def uniB : List (Addr × Str) → Bool
  | [] => true
  | p :: r => r.all (fun q => p.1 != q.1 || p.2 == q.2) && uniB r
theorem uniB_ok : ∀ {l : List (Addr × Str)}, uniB l = true → ∀ p ∈ l, ∀ q ∈ l, p.1 = q.1 → p.2 = q.2
  | [], _, _, h, _, _, _ => nomatch h
  | a :: r, h, p, hp, q, hq, e => by
    unfold uniB at h
    rw [Bool.and_eq_true, List.all_eq_true] at h
    have key : ∀ q ∈ r, a.1 = q.1 → a.2 = q.2 := fun q hq e => by
      have := h.1 q hq
      rw [e] at this
      simpa using this
    rcases List.mem_cons.mp hp with h1 | h1
    · rcases List.mem_cons.mp hq with h2 | h2
      · rw [h1, h2]
      · rw [h1]; exact key q h2 (h1 ▸ e)
    · rcases List.mem_cons.mp hq with h2 | h2
      · rw [h2]; exact (key p h1 (h2 ▸ e.symm)).symm
      · exact uniB_ok h.2 p h1 q h2 e
def inB (as : List Addr) (l : List (Addr × Str)) : Bool := l.all fun p => as.contains p.1
def exB (tf : List He.Defn) (K : Fg) : Bool := inB (tf.map fun q => (He.cT K q).2) (tabsOf K) && uniB (tabsOf K)
theorem tabK_of {fa : List He.Fa} {fn : List He.DefD} {tf : List He.Defn} {w : World} {h : Heap} {K : Fg} (c : He.SaysX fa fn [] tf (exB tf) w h K) : TabK K tf := by
  have e : (inB (tf.map fun q => (He.cT K q).2) (tabsOf K) && uniB (tabsOf K)) = true := c.more
  rw [Bool.and_eq_true] at e
  refine ⟨c.hd, c.out, fun p hp => ?_, uniB_ok e.2⟩
  have := List.all_eq_true.mp e.1 p hp
  rw [List.contains_iff_mem] at this
  obtain ⟨q, hq, e⟩ := List.mem_map.mp this
  exact ⟨q, hq, e⟩
abbrev TabsB (base : Heap) (mg : Str → Option Value) (K : Fg) (tf : List He.Defn) : Prop := ∀ p ∈ tf, LamX.TabB base mg (He.cT K p).1 (He.cT K p).2
theorem law_at {l : PySem.W.OpenLaw} {n k : Nat} {x : Str} {mg : Str → Option Value} {fa : Addr} {h : Heap} {w : World} {K : Fg} {st : Stmt} {name : Str} {tf : List He.Defn} (KX : K.In h) (tk : TabK K tf) (he : ∀ p ∈ tf, h.get? (He.cT K p).2 = some { cls := .none, data := .fields #[] })
    (hfa : mg name = some (.ref fa)) (hga : mg name = some (.ref (He.ga K name))) (F : FnD K name name st [] (name, none))
    (hbi : ∀ (kV doc pm : Value) (an : Option Addr) (cdv ct : Value) (us : List Value), us.length = [x].length → bindArgs (PySem.W.fnOf name name (defArgs st) (defBody st) (defScope st) .none kV doc pm an cdv ct) ⟨us, []⟩ = pure ([x].zip us))
    (ok : ∀ base : Heap, K.In base → base.Ns mainGlobals mg → TabsB base mg K tf → OkP l.prog w K mg base k (name, none) [x] (WLaw n)) : LamX.LawAtS l w K CX0 k n x mg fa h := by
  obtain ⟨fd, F⟩ := F
  have e := hfa.symm.trans hga
  cases e
  obtain ⟨oc, od, _, _, _, _, _, _, _, osl, _, lk, _⟩ := F.ex
  refine ⟨fd, tf.map (He.cT K), SpP K (WLaw n), fun p hp => ?_, fun p hp => ?_, fun p hp => ?_, fun s u => F.bindsA hbi s [u] rfl, fun H a ns h1 h2 hH hS => law_sp h1 h2 hS (fun p hp => ?_) _, fun base h1 h2 hT => ?_⟩
  · obtain ⟨q, hq, rfl⟩ := List.mem_map.mp hp
    exact he q hq
  · obtain ⟨q, hq, rfl⟩ := List.mem_map.mp hp
    exact tk.out q hq
  · obtain ⟨q, hq, rfl⟩ := List.mem_map.mp hp
    exact PySem.W.codeHd_of_K KX (tk.hd q hq)
  · obtain ⟨p0, hp0, rfl⟩ := List.mem_map.mp hp
    obtain ⟨q, hq, e⟩ := tk.all p0 hp0
    have hH1 := hH (He.cT K q) (List.mem_map_of_mem hq)
    rw [e] at hH1
    exact NdefX.TabN.nil hH1
  · obtain ⟨fd2, F2, _, oc2, od2, osl2, lk2⟩ := ok base h1 h2 fun p hp => hT _ (List.mem_map_of_mem hp)
    have e := lk.symm.trans lk2
    cases e
    exact F2
def LamC (X : Cx) (nm : Str) : Prop := ∃ c P, X.env.code = .ref c ∧ (P, X.env.qual ++ nm) ∈ tabsOf X.K ∧ LamX.TabB X.base X.mg c P ∧ ∀ p ∈ tabsOf X.K, p.1 = P → p.2 = X.env.qual ++ nm
section
variable {P : Program} {w : World} {K : Fg} {mg : Str → Option Value} {base : Heap}
theorem mem_of_look : ∀ {K : List (Addr × Obj)} {a : Addr} {o : Obj}, K.lookup a = some o → (a, o) ∈ K
  | [], _, _, h => nomatch h
  | (b, u) :: r, a, o, h => by
    rw [List.lookup_cons] at h
    by_cases c : a = b
    · subst c
      rw [beq_self_eq_true] at h
      cases h
      exact List.mem_cons_self
    · have e : (a == b) = false := beq_eq_false_iff_ne.mpr c
      rw [e] at h
      exact List.mem_cons_of_mem _ (mem_of_look h)
theorem fnPL {name qual : Str} {st : Stmt} {p : Str × Option Str} {N ps : List Str} {k : Nat} {tf : List He.Defn} (tk : TabK K tf) (tb : TabsB base mg K tf) (hp : p ∈ tf) (F : FnD K name qual st [] p) (S : FnScope N ps (defScope st)) {W : WP} {n : Nat} (hn : N.length = n) (B : BS K)
    (hbi : ∀ (kV doc pm : Value) (an : Option Addr) (cdv ct : Value) (us : List Value), us.length = ps.length → bindArgs (PySem.W.fnOf name qual (defArgs st) (defBody st) (defScope st) .none kV doc pm an cdv ct) ⟨us, []⟩ = pure (ps.zip us))
    (len : ∀ ds ω Φ, W ds ω Φ → ds.length = ps.length)
    (hb : ∀ (f : Addr) (cdv : Value) (A : Around) (outer : List Env) (s : Shared) (H : Hp) (E : XK), Room k (A.deeper (PyProof.Rows.envOfC qual (defScope st) s.heap.objs.size f cdv)) → LamC (cxOf CX0 P w K mg base N qual (defScope st) f cdv A outer s H E).nox (innerOf (defBody st)) → PSs (cxOf CX0 P w K mg base N qual (defScope st) f cdv A outer s H E).nox (defBody st) (B.t W0))
    (hw : ∀ ds ω Φ, W ds ω Φ → B.w (startD n ds) ω ⟨fun _ ω => Φ .non ω, Φ, fun _ _ => False, fun _ _ => False, fun _ _ _ => False⟩) : OkP P w K mg base (k + 1) p ps W := by
  obtain ⟨fd, F⟩ := F
  have lk : ∃ oc od osl, K.lookup (He.fAd K p) = some ⟨oc, od, .func fd, osl⟩ := by
    obtain ⟨oc, od, _, _, _, _, _, _, _, osl, _, h, _⟩ := F.ex
    exact ⟨oc, od, osl, h⟩
  have F0 := F
  obtain ⟨oc, od, dV, kV, doc, pm, an, cdv, ct, osl, rfl, lk2, hcd, _, _⟩ := F.ex
  obtain ⟨c, rfl⟩ := He.codeIn_ref hcd
  have ec : He.codeOf K p = c := He.codeOf_eq lk2 rfl
  have h1 := tk.hd p hp
  have h2 := tk.out p hp
  have h3 := tb p hp
  simp only [He.cT, ec] at h1 h2 h3
  have hmem : (He.tabOf K c, qual ++ ".<locals>." ++ innerOf (defBody st)) ∈ tabsOf K := by
    refine List.mem_filterMap.mpr ⟨_, mem_of_look lk2, ?_⟩
    show (if PySem.W.codeHdIn K c (He.tabOf K c) && (K.lookup (He.tabOf K c)).isNone then some (He.tabOf K c, qual ++ ".<locals>." ++ innerOf (defBody st)) else none) = _
    rw [h1, h2]; rfl
  refine ⟨_, fn_of lk2 hcd S (fun vs H Q E h => ?_) (fun A outer s H vs Q E hr h => ⟨B.t W0, PSs.nox (hb _ (.ref c) A outer s H E hr ⟨c, _, rfl, hmem, h3, fun q hq e => ?_⟩), ?_⟩), F0.bindsN hbi, lk⟩
  · obtain ⟨z, ds, Φ, _, _, r, hW, _⟩ := h
    rw [r.length]
    exact len ds _ _ hW
  · exact tk.uni q hq _ hmem e
  · obtain ⟨z, ds, Φ, rfl, ok, r, hW, q⟩ := h
    subst hn
    exact B.ok W0 (startD N.length ds) z (L2.start N vs) _ _ (hw ds z.o Φ hW) ok (rep_start r) ⟨fun σ2 ρ2 z2 t _ h2 => q .non z2 .non t .non h2, fun v d z2 t r2 h2 => q v z2 d t r2 h2, fun _ _ _ _ _ h => h.elim, fun _ _ _ _ _ h => h.elim, fun _ _ _ _ _ _ _ _ _ h => h.elim⟩
end
end
section
section
variable {K : Fg}
def seqOf (ω : Om) : D → Option (List D)
  | .lst ds => some ds
  | .tup ds => some ds
  | .scr ns => some (ns.map .int)
  | .ref a => match ω a with
    | some (.lst ds) => some ds
    | _ => none
  | _ => none
theorem seq_of {z : Z} (k : z.Ok K) {v : V} {d : D} {ds : List D} (r : Rep K z.d v d) (h : seqOf z.o d = some ds) : ∃ a xs, v = .ref a ∧ (SqL K z.h a xs ∨ SqT K z.h a xs) ∧ RepL K z.d xs ds := by
  cases r with
  | lst h1 h2 => cases h; exact ⟨_, _, rfl, .inl (SqL.of (k.fz _ _ h1)), h2⟩
  | tup h1 h2 => cases h; exact ⟨_, _, rfl, .inr (k.fz.sqt h1), h2⟩
  | @scr a ns h1 => cases h; exact ⟨_, _, rfl, .inl (k.fz.sql h1), .of_ints ns⟩
  | ref a =>
    cases e : z.o a with
    | none => simp [seqOf, e] at h
    | some c =>
      cases c with
      | lst es =>
        simp [seqOf, e] at h
        subst h
        obtain ⟨_, xs, h1, h2⟩ := k.cell a _ e
        exact ⟨a, xs, rfl, .inl (SqL.of h1), h2⟩
      | _ => simp [seqOf, e] at h
  | _ => simp [seqOf] at h
def cList (own : Bool) : CB K where
  r := fun xs H Q => ∃ p ys, xs = [.ref p] ∧ (SqL K H p ys ∨ SqT K H p ys) ∧ ∀ l, H l = none → Q (.ref l) (upd H l (.lst ys))
  w := fun ds ω Φ => match ds with
    | [d] => optW (seqOf ω d) fun es => if own = true then ∀ a, ω a = none → Φ (.ref a) (ω.set a (.lst es)) else Φ (.lst es) ω
    | _ => False
  ok := fun z xs ds Q Φ h k r q => by
    split at h
    · obtain ⟨x, rfl, r1⟩ := rep1 r
      obtain ⟨es, h1, h2⟩ := optW_iff.mp h
      obtain ⟨a, ys, rfl, ha, ry⟩ := seq_of k r1 h1
      refine ⟨a, ys, rfl, ha, fun p hp => ?_⟩
      cases own with
      | true =>
        have t := k.lay (o := .lst ys) (c := .lst es) hp ⟨_, upd_same, ry⟩
        exact q _ _ _ t (.ref p) (h2 p (k.free hp).2)
      | false =>
        have t := k.add (o := .lst ys) hp
        exact q _ _ _ t (.lst upd_same (ry.mono t.ex)) h2
    · exact h.elim
theorem call_cList {X : Cx} {b : Bool} : CallR X (.type "list") (cList (K := X.K) b).r := call_list_of
def cTuple : CB K where
  r := fun xs H Q => ∃ p ys, xs = [.ref p] ∧ ((SqL K H p ys ∧ ∀ l, H l = none → Q (.ref l) (upd H l (.tup ys))) ∨ (SqT K H p ys ∧ Q (.ref p) H))
  w := fun ds ω Φ => match ds with
    | [d] => optW (seqOf ω d) fun es => Φ (.tup es) ω
    | _ => False
  ok := fun z xs ds Q Φ h k r q => by
    split at h
    · obtain ⟨x, rfl, r1⟩ := rep1 r
      obtain ⟨es, h1, h2⟩ := optW_iff.mp h
      rename_i d
      by_cases c : ∃ us, d = .tup us
      · obtain ⟨us, rfl⟩ := c
        cases h1
        obtain ⟨a, ys, rfl, ha, ry⟩ := rep_tup r1
        exact ⟨a, ys, rfl, .inr ⟨k.fz.sqt ha, q _ z _ k.to (.tup ha ry) h2⟩⟩
      · have hl : ∃ a ys, x = .ref a ∧ SqL K z.h a ys ∧ RepL K z.d ys es := by
          cases r1 with
          | lst e1 e2 => cases h1; exact ⟨_, _, rfl, SqL.of (k.fz _ _ e1), e2⟩
          | tup e1 e2 => exact absurd ⟨_, rfl⟩ c
          | @scr a ns e1 => cases h1; exact ⟨_, _, rfl, k.fz.sql e1, .of_ints ns⟩
          | ref a =>
            cases e : z.o a with
            | none => simp [seqOf, e] at h1
            | some c =>
              cases c with
              | lst us =>
                simp [seqOf, e] at h1
                subst h1
                obtain ⟨_, ys, e1, e2⟩ := k.cell a _ e
                exact ⟨a, ys, rfl, SqL.of e1, e2⟩
              | _ => simp [seqOf, e] at h1
          | _ => simp [seqOf] at h1
        obtain ⟨a, ys, rfl, ha, ry⟩ := hl
        refine ⟨a, ys, rfl, .inl ⟨ha, fun p hp => ?_⟩⟩
        have t := k.add (o := .tup ys) hp
        exact q _ _ _ t (.tup (SqT.of upd_same) (ry.mono t.ex)) h2
    · exact h.elim
theorem call_cTuple {X : Cx} : CallR X (.type "tuple") (cTuple (K := X.K)).r := call_tuple_of
def strI (i : Int) : List Nat := TL.tl (Str.ofString (toString i))
theorem strI_nat (n : Nat) : strI (n : Int) = TL.numL n := TL.tl_num n
theorem strI_nn {i : Int} (h : 0 ≤ i) : strI i = TL.numL i.toNat := by
  obtain ⟨n, rfl⟩ := Int.eq_ofNat_of_zero_le h
  exact strI_nat n
theorem rep_strI {K : Fg} {H : Hp} (i : Int) : Rep K H (.str (Str.ofString (toString i))) (.str (strI i)) := Rep.cs _
def cStr : CB K where
  r := fun xs H Q => (∃ i : Int, xs = [.int i] ∧ i.natAbs.log2 < 1920 ∧ Q (.str (toString i)) H) ∨ ∃ a, xs = [.str a] ∧ Q (.str a) H
  w := fun ds ω Φ => match ds with
    | [.int i] => i.natAbs.log2 < 1920 ∧ Φ (.str (strI i)) ω
    | [.str s] => Φ (.str s) ω
    | _ => False
  ok := fun z xs ds Q Φ h k r q => by
    split at h
    · obtain ⟨x, rfl, r1⟩ := rep1 r
      cases r1
      exact .inl ⟨_, rfl, h.1, q _ z _ k.to (rep_strI _) h.2⟩
    · obtain ⟨x, rfl, r1⟩ := rep1 r
      cases r1
      exact .inr ⟨_, rfl, q _ z _ k.to (.str _) h⟩
    · exact h.elim
theorem call_cStr {X : Cx} : CallR X (.type "str") (cStr (K := X.K)).r := CallR.or call_str_int SkE.call_str_str
def isFig (c : Nat) : Bool := decide (48 ≤ c) && decide (c ≤ 57)
def figV (s : List Nat) : Nat := NumText.digitsVal s
def cInt : CB K where
  r := fun xs H Q => ((∃ i, xs = [.int i] ∧ Q (.int i) H) ∨ ∃ k, xs = [.bl k] ∧ Q (.int (if k then 1 else 0)) H) ∨ ∃ a n, xs = [.str a] ∧ PySem.intText? a = some n ∧ a.length ≤ 640 ∧ Q (.int n) H
  w := fun ds ω Φ => match ds with
    | [.int i] => Φ (.int i) ω
    | [.bl b] => Φ (.int (if b = true then 1 else 0)) ω
    | [.str s] => (s ≠ [] ∧ s.length ≤ 640 ∧ s.all isFig = true) ∧ Φ (.int (figV s : Nat)) ω
    | _ => False
  ok := fun z xs ds Q Φ h k r q => by
    split at h
    · obtain ⟨x, rfl, r1⟩ := rep1 r
      cases r1
      exact .inl (.inl ⟨_, rfl, q _ z _ k.to (.int _) h⟩)
    · obtain ⟨x, rfl, r1⟩ := rep1 r
      cases r1
      exact .inl (.inr ⟨_, rfl, q _ z _ k.to (.int _) h⟩)
    · obtain ⟨x, rfl, r1⟩ := rep1 r
      cases r1
      obtain ⟨⟨h1, h2, h3⟩, h4⟩ := h
      exact .inr ⟨_, _, rfl, SX.int_S h3 h1 (by omega), by rw [sOf_len]; omega, q _ z _ k.to (.int _) h4⟩
    · exact h.elim
def cOrd : CB K where
  r := fun xs H Q => ∃ x, xs = [.str x] ∧ x.length = 1 ∧ Q (.int (x.cps.getD 0 0 : Nat)) H
  w := fun ds ω Φ => match ds with
    | [.str [c]] => Φ (.int (c : Nat)) ω
    | _ => False
  ok := fun z xs ds Q Φ h k r q => by
    split at h
    · obtain ⟨x, rfl, r1⟩ := rep1 r
      cases r1
      exact ⟨_, rfl, rfl, q _ z _ k.to (.int _) h⟩
    · exact h.elim
theorem call_cOrd {X : Cx} : CallR X (.builtin "ord") (cOrd (K := X.K)).r := call_ord
def intsOf : List D → Option (List Int)
  | [] => some []
  | .int i :: r => (intsOf r).map (i :: ·)
  | _ => none
theorem intsOf_map : ∀ ns : List Int, intsOf (ns.map .int) = some ns
  | [] => rfl
  | n :: r => by show (intsOf (r.map .int)).map (n :: ·) = _; rw [intsOf_map r]; rfl
theorem intsOf_eq : ∀ {ds : List D} {ns : List Int}, intsOf ds = some ns → ds = ns.map .int
  | [], ns, h => by simp [intsOf] at h; subst h; rfl
  | .int b :: r, ns, h => by
    simp only [intsOf] at h
    cases e : intsOf r with
    | none => rw [e] at h; cases h
    | some cs => rw [e] at h; cases h; rw [intsOf_eq e]; rfl
  | .non :: _, _, h => by cases h
  | .bl _ :: _, _, h => by cases h
  | .str _ :: _, _, h => by cases h
  | .tup _ :: _, _, h => by cases h
  | .lst _ :: _, _, h => by cases h
  | .ref _ :: _, _, h => by cases h
  | .scr _ :: _, _, h => by cases h
  | .exn .. :: _, _, h => by cases h
  | .clo .. :: _, _, h => by cases h
def strsOf : List D → Option (List (List Nat))
  | [] => some []
  | .str i :: r => (strsOf r).map (i :: ·)
  | _ => none
theorem strsOf_map : ∀ ns : List (List Nat), strsOf (ns.map .str) = some ns
  | [] => rfl
  | n :: r => by show (strsOf (r.map .str)).map (n :: ·) = _; rw [strsOf_map r]; rfl
theorem strsOf_eq : ∀ {ds : List D} {ns : List (List Nat)}, strsOf ds = some ns → ds = ns.map .str
  | [], ns, h => by simp [strsOf] at h; subst h; rfl
  | .str b :: r, ns, h => by
    simp only [strsOf] at h
    cases e : strsOf r with
    | none => rw [e] at h; cases h
    | some cs => rw [e] at h; cases h; rw [strsOf_eq e]; rfl
  | .non :: _, _, h => by cases h
  | .bl _ :: _, _, h => by cases h
  | .int _ :: _, _, h => by cases h
  | .tup _ :: _, _, h => by cases h
  | .lst _ :: _, _, h => by cases h
  | .ref _ :: _, _, h => by cases h
  | .scr _ :: _, _, h => by cases h
  | .exn .. :: _, _, h => by cases h
  | .clo .. :: _, _, h => by cases h
theorem lstOf_seq {z : Z} (k : z.Ok K) {v : V} {d : D} {ds : List D} (r : Rep K z.d v d) (h : lstOf z.o d = some ds) : ∃ a xs, v = .ref a ∧ SqL K z.h a xs ∧ RepL K z.d xs ds := by
  obtain ⟨a, xs, e, h1, h2⟩ := lst_of k r h
  exact ⟨a, xs, e, SqL.of h1, h2⟩
def cSum : CB K where
  r := rSum K
  w := fun ds ω Φ => match ds with
    | [d] => optW (lstOf ω d) fun es => optW (intsOf es) fun ns => Φ (.int ns.sum) ω
    | _ => False
  ok := fun z xs ds Q Φ h k r q => by
    split at h
    · obtain ⟨x, rfl, r1⟩ := rep1 r
      obtain ⟨es, h1, h⟩ := optW_iff.mp h
      obtain ⟨ns, h2, h⟩ := optW_iff.mp h
      obtain ⟨a, ys, rfl, ha, ry⟩ := lstOf_seq k r1 h1
      rw [intsOf_eq h2] at ry
      rw [RepL.ints ry] at ha
      exact ⟨a, ns, rfl, ha, q _ z _ k.to (.int _) h⟩
    · exact h.elim
def cMaxL : CB K where
  r := rMax K
  w := fun ds ω Φ => match ds with
    | [d] => optW (lstOf ω d) fun es => optW (intsOf es) fun ns => ns ≠ [] ∧ ∀ m, m ∈ ns → (∀ y, y ∈ ns → y ≤ m) → Φ (.int m) ω
    | _ => False
  ok := fun z xs ds Q Φ h k r q => by
    split at h
    · obtain ⟨x, rfl, r1⟩ := rep1 r
      obtain ⟨es, h1, h⟩ := optW_iff.mp h
      obtain ⟨ns, h2, h3, h⟩ := optW_iff.mp h
      obtain ⟨a, ys, rfl, ha, ry⟩ := lstOf_seq k r1 h1
      rw [intsOf_eq h2] at ry
      rw [RepL.ints ry] at ha
      exact ⟨a, ns, rfl, ha, List.length_pos_iff.mpr h3, fun m m1 m2 => q _ z _ k.to (.int _) (h m m1 m2)⟩
    · exact h.elim
theorem call_cMaxL {X : Cx} (hc : X.calm = true := by rfl) : CallR X (.builtin "max") (cMaxL (K := X.K)).r := cr_max hc
def cMinL : CB K where
  r := rMin K
  w := fun ds ω Φ => match ds with
    | [d] => optW (lstOf ω d) fun es => optW (intsOf es) fun ns => ns ≠ [] ∧ ∀ m, m ∈ ns → (∀ y, y ∈ ns → m ≤ y) → Φ (.int m) ω
    | _ => False
  ok := fun z xs ds Q Φ h k r q => by
    split at h
    · obtain ⟨x, rfl, r1⟩ := rep1 r
      obtain ⟨es, h1, h⟩ := optW_iff.mp h
      obtain ⟨ns, h2, h3, h⟩ := optW_iff.mp h
      obtain ⟨a, ys, rfl, ha, ry⟩ := lstOf_seq k r1 h1
      rw [intsOf_eq h2] at ry
      rw [RepL.ints ry] at ha
      exact ⟨a, ns, rfl, ha, List.length_pos_iff.mpr h3, fun m m1 m2 => q _ z _ k.to (.int _) (h m m1 m2)⟩
    · exact h.elim
def cAny : CB K where
  r := rAny K
  w := fun ds ω Φ => match ds with
    | [d] => optW (lstOf ω d) fun es => optW (blsOf es) fun bs => Φ (.bl (bs.any id)) ω
    | _ => False
  ok := fun z xs ds Q Φ h k r q => by
    split at h
    · obtain ⟨x, rfl, r1⟩ := rep1 r
      obtain ⟨es, h1, h⟩ := optW_iff.mp h
      obtain ⟨ns, h2, h⟩ := optW_iff.mp h
      obtain ⟨a, ys, rfl, ha, ry⟩ := lstOf_seq k r1 h1
      rw [blsOf_eq h2] at ry
      rw [RepL.bls ry] at ha
      exact ⟨a, ns, rfl, ha, q _ z _ k.to (.bl _) h⟩
    · exact h.elim
structure BM (K : Fg) where
  r : V → List V → Hp → VK → Prop
  w : D → List D → Om → (D → Om → Prop) → Prop
  ok : ∀ (z : Z) (x : V) (xs : List V) (d : D) (ds : List D) (Q : VK) (Φ : D → Om → Prop), w d ds z.o Φ → z.Ok K → Rep K z.d x d → RepL K z.d xs ds → (∀ v z2 c, To K z z2 → Rep K z2.d v c → Φ c z2.o → Q v z2.h) → r x xs z.h Q
def tyM (ω : Om) (d : D) : String := match d with
  | .str _ => "str"
  | .int _ => "int"
  | .lst _ => "list"
  | .scr _ => "list"
  | .ref a => match ω a with
    | some (.lst _) => "list"
    | some (.dk _) => "dict"
    | some (.dt _) => "dict"
    | _ => ""
  | _ => ""
theorem tyM_rep {z : Z} (k : z.Ok K) {v : V} {d : D} {T : String} (r : Rep K z.d v d) (h : tyM z.o d = T) (hT : T ≠ "") : tyV K T v z.h := by
  subst h
  cases r with
  | str s => exact rfl
  | int i => exact rfl
  | lst h1 h2 => exact .inl ⟨rfl, _, SqL.of (k.fz _ _ h1)⟩
  | scr h1 => exact .inl ⟨rfl, _, k.fz.sql h1⟩
  | ref a =>
    unfold tyM at hT ⊢
    simp only at hT ⊢
    split at hT
    · rename_i ds hc
      obtain ⟨_, xs, h1, _⟩ := k.cell a _ hc
      exact .inl ⟨rfl, xs, SqL.of h1⟩
    · rename_i ds hc
      obtain ⟨_, xs, h1, _⟩ := k.cell a _ hc
      exact .inr (.inr (.inl ⟨rfl, .inl ⟨_, h1⟩⟩))
    · rename_i ds hc
      obtain ⟨_, xs, h1, _⟩ := k.cell a _ hc
      exact .inr (.inr (.inl ⟨rfl, .inr ⟨_, h1⟩⟩))
    · exact absurd rfl hT
  | _ => exact absurd rfl hT
def bM (Ty : String) (hT : Ty ≠ "") (m : BM K) (o : BE K) (a : BA K) : BE K where
  t := fun W => tBM K Ty m.r (o.t W) (a.t W)
  w := fun ρ ω Φ Ψ => o.w ρ ω (fun x ω1 => tyM ω1 x = Ty ∧ a.w ρ ω1 (fun xs ω2 => m.w x xs ω2 Φ) Ψ) Ψ
  ok := fun W ρ z σ Q Φ Ψ h k r q qx => by
    refine o.ok W ρ z σ _ _ Ψ h k r (fun x z1 d t1 r1 h1 => ?_) qx
    refine ⟨tyM_rep t1.ok r1 h1.1 hT, ?_⟩
    refine a.ok W ρ z1 σ _ _ Ψ h1.2 t1.ok (r.mono t1.ex) (fun xs z2 ds t2 r2 h2 => ?_) fun x cls d z2 t2 => qx x cls d z2 (t1.trans t2)
    exact m.ok z2 x xs d ds Q Φ h2 t2.ok (r1.mono t2.ex) r2 fun v z3 c t3 => q v z3 c ((t1.trans t2).trans t3)
def bM0 (Ty : String) (hT : Ty ≠ "") (m : BM K) (o : BE K) : BE K where
  t := fun W => tBM0 K Ty m.r (o.t W)
  w := fun ρ ω Φ Ψ => o.w ρ ω (fun x ω1 => tyM ω1 x = Ty ∧ m.w x [] ω1 Φ) Ψ
  ok := fun W ρ z σ Q Φ Ψ h k r q qx => by
    refine o.ok W ρ z σ _ _ Ψ h k r (fun x z1 d t1 r1 h1 => ?_) qx
    exact ⟨tyM_rep t1.ok r1 h1.1 hT, m.ok z1 x [] d [] Q Φ h1.2 t1.ok r1 .nil fun v z3 c t3 => q v z3 c (t1.trans t3)⟩
section
variable {X : Cx} {o e : Expr} {es : List Expr} {O A : BE X.K} {As : BA X.K} {W : WX} {name : Str} {apos cpos : Pos} {Ty id : String}
theorem P_M {hT : Ty ≠ ""} {m : BM X.K} (pa : PlainAttrs Ty) (slot : Slot Ty name id) (hty : typeOf (.builtin id) = pure (.type "method_descriptor")) (hm : MtR X id m.r) (ho : PE X o (O.t W)) (ha : PA X (e :: es) (As.t W))
    (hbase : attributeBase o name X.env (eval o X.env) = eval o X.env := by rfl)
    (hfew : ((backTo cpos (starEach (e :: es) X.env)).all (fun x => !x.1) && (backToKw cpos (keywordEach [] X.env)).all (fun x => x.1.isSome)
      && decide ((e :: es).length + ([] : List Keyword).length + (if ([] : List Keyword).isEmpty then 0 else 1) < 30)) = true := by rfl)
    (hline : (apos.endLine == cpos.line) = true := by rfl) (hs : starEach (e :: es) X.env = (false, eval e X.env) :: starEach es X.env := by rfl) (hplain : (backTo cpos (starEach es X.env)).any (·.1) = false := by rfl) :
    PE X (.Call (.Attribute o name apos) (e :: es) [] cpos) ((bM Ty hT m O As).t W) := pe_bm pa slot hty hm ho ha hbase hfew hline hs hplain
end
def m_append : BM K where
  r := rAppend
  w := fun x xs ω Φ => match x, xs with
    | .ref a, [y] => cL (ω a) fun ds => ds.length < 16777216 ∧ Φ .non (ω.set a (.lst (ds ++ [y])))
    | _, _ => False
  ok := fun z x xs d ds Q Φ h k r rs q => by
    split at h
    · cases r
      obtain ⟨es, hc, h1, h2⟩ := cL_iff.mp h
      obtain ⟨y, rfl, ry⟩ := rep1 rs
      obtain ⟨_, ys, g1, g2⟩ := k.cell _ _ hc
      refine ⟨_, ys, y, rfl, rfl, g1, by rw [g2.length, sizeLine_eq]; exact h1, ?_⟩
      have t := k.put (o := .lst (ys ++ [y])) (c' := .lst (es ++ [_])) hc ⟨_, upd_same, g2.append (.cons ry .nil)⟩
      exact q _ _ _ t .non h2
    · exact h.elim
theorem mt_append_ {X : Cx} : MtR X "list.append" (m_append (K := X.K)).r := mt_append
def m_extend : BM K where
  r := rExtend
  w := fun x xs ω Φ => match x, xs with
    | .ref a, [y] => cL (ω a) fun ds => optW (lstOf ω y) fun es => ds.length + es.length ≤ 16777216 ∧ Φ .non (ω.set a (.lst (ds ++ es)))
    | _, _ => False
  ok := fun z x xs d ds Q Φ h k r rs q => by
    split at h
    · cases r
      obtain ⟨es, hc, h⟩ := cL_iff.mp h
      obtain ⟨us, h1, h2, h3⟩ := optW_iff.mp h
      obtain ⟨y, rfl, ry⟩ := rep1 rs
      obtain ⟨b, ws, rfl, hb, rb⟩ := lst_of k ry h1
      obtain ⟨_, ys, g1, g2⟩ := k.cell _ _ hc
      refine ⟨_, b, ys, ws, rfl, rfl, g1, hb, by rw [g2.length, rb.length, sizeLine_eq]; exact h2, ?_⟩
      have t := k.put (o := .lst (ys ++ ws)) (c' := .lst (es ++ us)) hc ⟨_, upd_same, g2.append rb⟩
      exact q _ _ _ t .non h3
    · exact h.elim
theorem RepL.dropLast {H : Hp} : ∀ {vs : List V} {ds : List D}, RepL K H vs ds → RepL K H vs.dropLast ds.dropLast := fun {vs ds} h => by
  rw [List.dropLast_eq_take, List.dropLast_eq_take, h.length]
  exact h.take _
theorem RepL.eraseIdx {H : Hp} : ∀ {vs : List V} {ds : List D} (i : Nat), RepL K H vs ds → RepL K H (vs.eraseIdx i) (ds.eraseIdx i)
  | _, _, _, .nil => .nil
  | _, _, 0, .cons _ t => t
  | _, _, i + 1, .cons r t => .cons r (RepL.eraseIdx i t)
def m_pop : BM K where
  r := rPop
  w := fun x xs ω Φ => match x, xs with
    | .ref a, [] => cL (ω a) fun ds => optW (ds[ds.length - 1]?) fun d => Φ d (ω.set a (.lst ds.dropLast))
    | _, _ => False
  ok := fun z x xs d ds Q Φ h k r rs q => by
    split at h
    · cases r
      obtain ⟨es, hc, h⟩ := cL_iff.mp h
      obtain ⟨y, h1, h2⟩ := optW_iff.mp h
      cases rs
      obtain ⟨_, ys, g1, g2⟩ := k.cell _ _ hc
      obtain ⟨v, hv, rv⟩ := g2.get h1
      refine ⟨_, ys, v, rfl, rfl, g1, by rw [g2.length]; exact hv, ?_⟩
      have t := k.put (o := .lst ys.dropLast) (c' := .lst es.dropLast) hc ⟨_, upd_same, g2.dropLast⟩
      exact q _ _ _ t rv h2
    · exact h.elim
def m_popAt : BM K where
  r := rPopAt
  w := fun x xs ω Φ => match x, xs with
    | .ref a, [.int i] => cL (ω a) fun ds => (-9223372036854775808 ≤ i ∧ i < 9223372036854775808) ∧ optW (seqIndex? i ds.length) fun k => optW (ds[k]?) fun d => Φ d (ω.set a (.lst (ds.eraseIdx k)))
    | _, _ => False
  ok := fun z x xs d ds Q Φ h k r rs q => by
    split at h
    · cases r
      obtain ⟨es, hc, h0, h⟩ := cL_iff.mp h
      obtain ⟨j, h1, h⟩ := optW_iff.mp h
      obtain ⟨y, h2, h3⟩ := optW_iff.mp h
      obtain ⟨u, rfl, ru⟩ := rep1 rs
      cases ru
      obtain ⟨_, ys, g1, g2⟩ := k.cell _ _ hc
      obtain ⟨v, hv, rv⟩ := g2.get h2
      refine ⟨_, ys, _, j, v, rfl, rfl, g1, h0.1, h0.2, by rw [g2.length]; exact h1, hv, ?_⟩
      have t := k.put (o := .lst (ys.eraseIdx j)) (c' := .lst (es.eraseIdx j)) hc ⟨_, upd_same, g2.eraseIdx j⟩
      exact q _ _ _ t rv h3
    · exact h.elim
def m_reverse : BM K where
  r := rReverse
  w := fun x xs ω Φ => match x, xs with
    | .ref a, [] => cL (ω a) fun ds => Φ .non (ω.set a (.lst ds.reverse))
    | _, _ => False
  ok := fun z x xs d ds Q Φ h k r rs q => by
    split at h
    · cases r
      obtain ⟨es, hc, h⟩ := cL_iff.mp h
      cases rs
      obtain ⟨_, ys, g1, g2⟩ := k.cell _ _ hc
      refine ⟨_, ys, rfl, rfl, g1, ?_⟩
      have t := k.put (o := .lst ys.reverse) (c' := .lst es.reverse) hc ⟨_, upd_same, g2.reverse⟩
      exact q _ _ _ t .non h
    · exact h.elim
def m_clear : BM K where
  r := rClear
  w := fun x xs ω Φ => match x, xs with
    | .ref a, [] => cL (ω a) fun ds => Φ .non (ω.set a (.lst []))
    | _, _ => False
  ok := fun z x xs d ds Q Φ h k r rs q => by
    split at h
    · cases r
      obtain ⟨es, hc, h⟩ := cL_iff.mp h
      cases rs
      obtain ⟨_, ys, g1, g2⟩ := k.cell _ _ hc
      refine ⟨_, ys, rfl, rfl, g1, ?_⟩
      have t := k.put (o := .lst []) (c' := .lst []) hc ⟨_, upd_same, .nil⟩
      exact q _ _ _ t .non h
    · exact h.elim
def m_insert : BM K where
  r := fun x vs H Q => ∃ (l : Addr) (xs : List V) (i : Int) (y : V), x = .ref l ∧ vs = [.int i, y] ∧ H l = some (.lst xs) ∧ xs.length < sizeLine ∧ 0 ≤ i ∧ i < 2 ^ 63 ∧ Q .non (upd H l (.lst (xs.take i.toNat ++ [y] ++ xs.drop i.toNat)))
  w := fun x xs ω Φ => match x, xs with
    | .ref a, [.int i, y] => cL (ω a) fun ds => (ds.length < 16777216 ∧ 0 ≤ i ∧ i < 9223372036854775808) ∧ Φ .non (ω.set a (.lst (ds.take i.toNat ++ [y] ++ ds.drop i.toNat)))
    | _, _ => False
  ok := fun z x xs d ds Q Φ h k r rs q => by
    split at h
    · rename_i a i y
      cases r
      obtain ⟨es, hc, h0, h⟩ := cL_iff.mp h
      obtain ⟨u, v, rfl, ru, rv⟩ := rep2 rs
      cases ru
      obtain ⟨_, ys, g1, g2⟩ := k.cell _ _ hc
      refine ⟨_, ys, _, v, rfl, rfl, g1, by rw [g2.length, sizeLine_eq]; exact h0.1, h0.2.1, h0.2.2, ?_⟩
      have t := k.put (o := .lst (ys.take i.toNat ++ [v] ++ ys.drop i.toNat)) (c' := .lst (es.take i.toNat ++ [y] ++ es.drop i.toNat)) hc ⟨_, upd_same, ((g2.take _).append (.cons rv .nil)).append (g2.drop _)⟩
      exact q _ _ _ t .non h
    · exact h.elim
def m_split : BM K where
  r := fun x xs H Q => ∃ a b, x = .str a ∧ xs = [.str b] ∧ (b.length == 0) = false ∧ a.length + 2 ≤ sizeLine ∧ rNewStrs (Txt.split a b) H Q
  w := fun x xs ω Φ => match x, xs with
    | .str s, [.str t] => (t ≠ [] ∧ t.all (· < 256) = true ∧ s.length + 2 ≤ 16777216) ∧ Φ (.lst ((TL.spl t 0 [] s).map .str)) ω
    | _, _ => False
  ok := fun z x xs d ds Q Φ h k r rs q => by
    split at h
    · rename_i s t
      cases r
      obtain ⟨⟨h1, h2, h3⟩, h⟩ := h
      obtain ⟨u, rfl, ru⟩ := rep1 rs
      cases ru
      have e := TL.split_spl (⟨s.toArray⟩ : Str) (⟨t.toArray⟩ : Str) h1 (TL.kind_ok (by simpa using h2))
      refine ⟨_, _, rfl, rfl, ?_, by rw [sOf_len, sizeLine_eq]; exact h3, fun p hp => ?_⟩
      · rw [sOf_len]; cases t with
        | nil => exact absurd rfl h1
        | cons => rfl
      · have t1 := k.add (o := .lst ((Txt.split (⟨s.toArray⟩ : Str) (⟨t.toArray⟩ : Str)).map V.str)) hp
        refine q _ _ _ t1 (.lst upd_same ?_) h
        have e2 : (Txt.split (⟨s.toArray⟩ : Str) (⟨t.toArray⟩ : Str)) = (TL.spl t 0 [] s).map sOf := by
          refine TL.map_tl_inj (e.trans ?_)
          rw [List.map_map]
          show TL.spl t 0 [] s = _
          have : (TL.tl ∘ sOf) = id := by funext l; rfl
          rw [this, List.map_id]
        rw [e2]
        exact .of_strs _
    · exact h.elim
def parL (s t : List Nat) : List (List Nat) := match TL.par t [] s with
  | some (a, b) => [a, t, b]
  | none => [s, [], []]
def m_partition : BM K where
  r := fun x xs H Q => ∃ a b, x = .str a ∧ xs = [.str b] ∧ (b.length == 0) = false ∧ a.length ≤ sizeLine ∧ ∀ p, H p = none → Q (.ref p) (upd H p (.tup [.str (Txt.partition a b).1, .str (Txt.partition a b).2.1, .str (Txt.partition a b).2.2]))
  w := fun x xs ω Φ => match x, xs with
    | .str s, [.str t] => (t ≠ [] ∧ s.length ≤ 16777216) ∧ Φ (.tup ((parL s t).map .str)) ω
    | _, _ => False
  ok := fun z x xs d ds Q Φ h k r rs q => by
    split at h
    · rename_i s t
      cases r
      obtain ⟨⟨h1, h3⟩, h⟩ := h
      obtain ⟨u, rfl, ru⟩ := rep1 rs
      cases ru
      refine ⟨_, _, rfl, rfl, ?_, by rw [sOf_len, sizeLine_eq]; exact h3, fun p hp => ?_⟩
      · rw [sOf_len]; cases t with
        | nil => exact absurd rfl h1
        | cons => rfl
      · rw [TL.partition_par _ _ (show TL.tl (⟨t.toArray⟩ : Str) ≠ [] from h1)]
        show Q (.ref p) (upd z.h p (.tup [.str (match TL.par t [] s with | some (a, b) => ((⟨a.toArray⟩ : Str), (⟨t.toArray⟩ : Str), (⟨b.toArray⟩ : Str)) | none => ((⟨s.toArray⟩ : Str), Str.empty, Str.empty)).1, .str (match TL.par t [] s with | some (a, b) => ((⟨a.toArray⟩ : Str), (⟨t.toArray⟩ : Str), (⟨b.toArray⟩ : Str)) | none => ((⟨s.toArray⟩ : Str), Str.empty, Str.empty)).2.1, .str (match TL.par t [] s with | some (a, b) => ((⟨a.toArray⟩ : Str), (⟨t.toArray⟩ : Str), (⟨b.toArray⟩ : Str)) | none => ((⟨s.toArray⟩ : Str), Str.empty, Str.empty)).2.2]))
        unfold parL at h
        cases e : TL.par t [] s with
        | none =>
          rw [e] at h
          have t1 := k.add (o := .tup [.str (⟨s.toArray⟩ : Str), .str Str.empty, .str Str.empty]) hp
          exact q _ _ _ t1 (.tup (SqT.of upd_same) (.cons (.str s) (.cons (.str []) (.cons (.str []) .nil)))) h
        | some ab =>
          rw [e] at h
          obtain ⟨a, b⟩ := ab
          have t1 := k.add (o := .tup [.str (⟨a.toArray⟩ : Str), .str (⟨t.toArray⟩ : Str), .str (⟨b.toArray⟩ : Str)]) hp
          exact q _ _ _ t1 (.tup (SqT.of upd_same) (.cons (.str a) (.cons (.str t) (.cons (.str b) .nil)))) h
    · exact h.elim
def m_join : BM K where
  r := fun x xs H Q => ∃ a p, ∃ ys : List Str, x = .str a ∧ xs = [.ref p] ∧ (SqL K H p (ys.map V.str) ∨ SqT K H p (ys.map V.str)) ∧ (ys.map (·.length)).sum + ys.length * a.length ≤ 16777216 ∧ Q (.str (Txt.join a ys)) H
  w := fun x xs ω Φ => match x, xs with
    | .str s, [y] => optW (seqOf ω y) fun es => optW (strsOf es) fun ts => (ts.map (·.length)).sum + ts.length * s.length ≤ 16777216 ∧ Φ (.str (TL.joinL s ts)) ω
    | _, _ => False
  ok := fun z x xs d ds Q Φ h k r rs q => by
    split at h
    · rename_i s y
      cases r
      obtain ⟨es, h1, h⟩ := optW_iff.mp h
      obtain ⟨ts, h2, h3, h⟩ := optW_iff.mp h
      obtain ⟨u, rfl, ru⟩ := rep1 rs
      obtain ⟨a, ys, rfl, ha, ry⟩ := seq_of k ru h1
      rw [strsOf_eq h2] at ry
      rw [RepL.strs ry] at ha
      have em : ((ts.map sOf).map (·.length)) = ts.map (·.length) := by
        rw [List.map_map]; refine List.map_congr_left fun l _ => sOf_len l
      refine ⟨_, a, ts.map sOf, rfl, rfl, ha, by rw [em, List.length_map, sOf_len]; exact h3, ?_⟩
      rw [TL.join_eq]
      have e2 : Str.join (⟨s.toArray⟩ : Str) (ts.map sOf) = ⟨(TL.joinL s ts).toArray⟩ := by
        refine TL.ext_tl ?_
        rw [TL.tl_join, List.map_map]
        have : (TL.tl ∘ sOf) = id := by funext l; rfl
        rw [this, List.map_id]
      rw [e2]
      exact q _ z _ k.to (.str _) h
    · exact h.elim
theorem mt_join_ {X : Cx} : MtR X "str.join" (m_join (K := X.K)).r := mt_join
def zfL (s : List Nat) (n : Nat) : List Nat := List.replicate (n - s.length) 48 ++ s
theorem zf_eq {s : List Nat} {i : Int} (h : s.head? ≠ some 43) (g : s.head? ≠ some 45) : Txt.zfill (⟨s.toArray⟩ : Str) i = ⟨(zfL s i.toNat).toArray⟩ := by
  unfold Txt.zfill zfL
  rw [sOf_len]
  by_cases c : i ≤ s.length
  · rw [if_pos c, show i.toNat - s.length = 0 by omega]; rfl
  · rw [if_neg c]
    unfold zfilled
    have e : (⟨s.toArray⟩ : Str).cps[0]? = s.head? := by simp [List.head?_eq_getElem?]
    rw [e]
    split
    · rename_i e2; exact absurd e2 h
    · rename_i e2; exact absurd e2 g
    · unfold Builtin.Str.padded
      refine TL.ext_tl ?_
      simp [TL.tl]
def m_zfill : BM K where
  r := fun x xs H Q => ∃ (a : Str) (i : Int), x = .str a ∧ xs = [.int i] ∧ PadOk i = true ∧ Q (.str (Txt.zfill a i)) H
  w := fun x xs ω Φ => match x, xs with
    | .str s, [.int i] => ((0 ≤ i ∧ i ≤ 1000) ∧ s.head? ≠ some 43 ∧ s.head? ≠ some 45) ∧ Φ (.str (zfL s i.toNat)) ω
    | _, _ => False
  ok := fun z x xs d ds Q Φ h k r rs q => by
    split at h
    · rename_i s i
      cases r
      obtain ⟨u, rfl, ru⟩ := rep1 rs
      cases ru
      refine ⟨_, i, rfl, rfl, ?_, ?_⟩
      · unfold PadOk
        rw [Bool.and_eq_true]
        refine ⟨?_, ?_⟩
        · unfold fitsSsize
          simp; omega
        · unfold Builtin.Str.tooLong
          rw [sizeLine_eq]
          simp; omega
      · rw [zf_eq h.1.2.1 h.1.2.2]
        exact q _ z _ k.to (.str _) h.2
    · exact h.elim
theorem mt_zfill_ {X : Cx} : MtR X "str.zfill" (m_zfill (K := X.K)).r := mt_zfill
def m_sindex : BM K where
  r := fun x xs H Q => ∃ a b i rest, x = .str a ∧ xs = [.str b] ∧ Builtin.Str.occurrences a b 0 a.length 1 = i :: rest ∧ Q (.int (i : Nat)) H
  w := fun x xs ω Φ => match x, xs with
    | .str s, [.str [c]] => c ∈ s ∧ ∀ i : Nat, s[i]? = some c → Φ (.int i) ω
    | _, _ => False
  ok := fun z x xs d ds Q Φ h k r rs q => by
    split at h
    · rename_i s c
      cases r
      obtain ⟨u, rfl, ru⟩ := rep1 rs
      cases ru
      have f := StrLaws.found_one (⟨s.toArray⟩ : Str) c
      have f2 : decide (c ∈ (⟨s.toArray⟩ : Str).cps.toList) = true := by simpa using h.1
      rw [f2] at f
      cases e : Builtin.Str.occurrences (⟨s.toArray⟩ : Str) ⟨#[c]⟩ 0 (⟨s.toArray⟩ : Str).length 1 with
      | nil => rw [e] at f; cases f
      | cons i rest =>
        refine ⟨_, _, i, rest, rfl, rfl, e, q _ z _ k.to (.int _) (h.2 i ?_)⟩
        obtain ⟨o1, o2⟩ := StrLaws.occ_spec (⟨s.toArray⟩ : Str) ⟨#[c]⟩ 0 _ 1 i (by rw [e]; exact List.mem_cons_self)
        unfold Builtin.Str.subAt at o2
        have o2 := eq_of_beq o2
        rw [sOf_len] at o1
        have o3 : ((s.drop i).take 1) = [c] := by
          have := congrArg Array.toList o2
          have l1 : (⟨#[c]⟩ : Str).length = 1 := rfl
          rw [l1] at this
          simpa using this
        have hi : i < s.length := by
          have e1 : (⟨[c].toArray⟩ : Str).length = 1 := rfl
          have e2 := sOf_len s
          have o1' : i + (⟨[c].toArray⟩ : Str).length ≤ (⟨s.toArray⟩ : Str).length := o1
          omega
        rw [List.drop_eq_getElem_cons hi, List.take_succ_cons, List.take_zero] at o3
        rw [List.getElem?_eq_getElem hi]
        exact congrArg some (List.cons.inj o3).1
    · exact h.elim
end
end
section
def NeedW (C P : Prop) : Prop := C ∧ P
theorem x_need {C P : Prop} (h : C) : NeedW C P = P := propext ⟨fun z => z.2, fun z => ⟨h, z⟩⟩
theorem need3 {A B C P : Prop} : ((A ∧ B ∧ C) ∧ P) = NeedW A (NeedW B (NeedW C P)) := propext ⟨fun ⟨⟨a, b, c⟩, p⟩ => ⟨a, b, c, p⟩, fun ⟨a, b, c, p⟩ => ⟨⟨a, b, c⟩, p⟩⟩
theorem need2 {A B P : Prop} : ((A ∧ B) ∧ P) = NeedW A (NeedW B P) := propext ⟨fun ⟨⟨a, b⟩, p⟩ => ⟨a, b, p⟩, fun ⟨a, b, p⟩ => ⟨⟨a, b⟩, p⟩⟩
def tyC : Option Cell → String
  | some (.lst _) => "list"
  | some (.dk _) => "dict"
  | some (.dt _) => "dict"
  | _ => ""
section
variable {K : Fg} {ρ : En} {ω : Om} {Φ : D → Om → Prop} {Ψ : Exn → Om → Prop} {A : BE K} {As : BA K} {d e : D} {i j : Int} {s t : List Nat} {x : Bool} {ds es : List D} {a : Addr} {ns : List Int} {ts : List (List Nat)} {bs : List Bool} {c : Nat}
theorem x_seqL : seqOf ω (.lst ds) = some ds := rfl
theorem x_seqT : seqOf ω (.tup ds) = some ds := rfl
theorem x_seqC : seqOf ω (.scr ns) = some (ns.map .int) := rfl
theorem x_seqR {F : List D → Prop} : optW (seqOf ω (.ref a)) F = cL (ω a) F := by
  show optW (match ω a with | some (.lst ds) => some ds | _ => none) F = _
  cases ω a with
  | none => rfl
  | some c => cases c <;> rfl
theorem x_lstL : lstOf ω (.lst ds) = some ds := rfl
theorem x_lstR {F : List D → Prop} : optW (lstOf ω (.ref a)) F = cL (ω a) F := by
  show optW (match ω a with | some (.lst ds) => some ds | _ => none) F = _
  cases ω a with
  | none => rfl
  | some c => cases c <;> rfl
theorem x_ints : intsOf (ns.map .int) = some ns := intsOf_map ns
theorem x_ints0 : intsOf [] = some [] := rfl
theorem x_ints1 : intsOf (.int i :: ds) = (intsOf ds).map (i :: ·) := rfl
theorem x_strs : strsOf (ts.map .str) = some ts := strsOf_map ts
theorem x_strs0 : strsOf [] = some [] := rfl
theorem x_strs1 : strsOf (.str s :: ds) = (strsOf ds).map (s :: ·) := rfl
theorem x_bls : blsOf (bs.map .bl) = some bs := blsOf_map bs
theorem x_bls0 : blsOf [] = some [] := rfl
theorem x_bls1 : blsOf (.bl x :: ds) = (blsOf ds).map (x :: ·) := rfl
theorem x_omap {α β : Type} {y : α} {f : α → β} : (some y).map f = some (f y) := rfl
theorem x_cl : (cList false : CB K).w [d] ω Φ = optW (seqOf ω d) fun es => Φ (.lst es) ω := rfl
theorem x_clO : (cList true : CB K).w [d] ω Φ = optW (seqOf ω d) fun es => ∀ a, ω a = none → Φ (.ref a) (ω.set a (.lst es)) := rfl
theorem x_ctu : (cTuple : CB K).w [d] ω Φ = optW (seqOf ω d) fun es => Φ (.tup es) ω := rfl
theorem log_ok {i : Int} (h : -1000000000000000000000000000000000000000000000000000000000000000000000000000000000000000000000000000 ≤ i ∧ i ≤ 1000000000000000000000000000000000000000000000000000000000000000000000000000000000000000000000000000) : i.natAbs.log2 < 1920 := by
  by_cases c : i.natAbs = 0
  · rw [c]; decide
  · rw [Nat.log2_lt c]
    have : i.natAbs ≤ 1000000000000000000000000000000000000000000000000000000000000000000000000000000000000000000000000000 := by omega
    exact Nat.lt_of_le_of_lt this (by decide)
theorem x_strI (h : -1000000000000000000000000000000000000000000000000000000000000000000000000000000000000000000000000000 ≤ i ∧ i ≤ 1000000000000000000000000000000000000000000000000000000000000000000000000000000000000000000000000000) : (cStr : CB K).w [.int i] ω Φ = Φ (.str (strI i)) ω := propext ⟨fun z => z.2, fun z => ⟨log_ok h, z⟩⟩
theorem x_strS : (cStr : CB K).w [.str s] ω Φ = Φ (.str s) ω := rfl
theorem x_intI : (cInt : CB K).w [.int i] ω Φ = Φ (.int i) ω := rfl
theorem x_intB : (cInt : CB K).w [.bl x] ω Φ = Φ (.int (if x = true then 1 else 0)) ω := rfl
theorem x_intS : (cInt : CB K).w [.str s] ω Φ = NeedW (s ≠ []) (NeedW (s.length ≤ 640) (NeedW (s.all isFig = true) (Φ (.int (figV s : Nat)) ω))) := need3
theorem x_ord : (cOrd : CB K).w [.str [c]] ω Φ = Φ (.int (c : Nat)) ω := rfl
theorem x_sum : (cSum : CB K).w [d] ω Φ = optW (lstOf ω d) fun es => optW (intsOf es) fun ns => Φ (.int ns.sum) ω := rfl
theorem x_maxL : (cMaxL : CB K).w [d] ω Φ = optW (lstOf ω d) fun es => optW (intsOf es) fun ns => NeedW (ns ≠ []) (∀ m, m ∈ ns → (∀ y, y ∈ ns → y ≤ m) → Φ (.int m) ω) := rfl
theorem x_minL : (cMinL : CB K).w [d] ω Φ = optW (lstOf ω d) fun es => optW (intsOf es) fun ns => NeedW (ns ≠ []) (∀ m, m ∈ ns → (∀ y, y ∈ ns → m ≤ y) → Φ (.int m) ω) := rfl
theorem x_any : (cAny : CB K).w [d] ω Φ = optW (lstOf ω d) fun es => optW (blsOf es) fun ns => Φ (.bl (ns.any id)) ω := rfl
theorem x_all2 : (cAll : CB K).w [d] ω Φ = optW (lstOf ω d) fun es => optW (blsOf es) fun ns => Φ (.bl (ns.all id)) ω := by
  refine propext ⟨fun ⟨_, es, bs, h0, h1, h2, z⟩ => ?_, fun z => ?_⟩
  · cases h0
    rw [h1]
    show optW (blsOf es) _
    rw [h2]; exact z
  · obtain ⟨es, h1, z⟩ := optW_iff.mp z
    obtain ⟨bs, h2, z⟩ := optW_iff.mp z
    exact ⟨d, es, bs, rfl, h1, h2, z⟩
theorem x_bM {Ty : String} {hT : Ty ≠ ""} {m : BM K} : (bM Ty hT m A As).w ρ ω Φ Ψ = A.w ρ ω (fun x ω1 => NeedW (tyM ω1 x = Ty) (As.w ρ ω1 (fun xs ω2 => m.w x xs ω2 Φ) Ψ)) Ψ := rfl
theorem x_bM0 {Ty : String} {hT : Ty ≠ ""} {m : BM K} : (bM0 Ty hT m A).w ρ ω Φ Ψ = A.w ρ ω (fun x ω1 => NeedW (tyM ω1 x = Ty) (m.w x [] ω1 Φ)) Ψ := rfl
theorem x_tyS : tyM ω (.str s) = "str" := rfl
theorem x_tyL : tyM ω (.lst ds) = "list" := rfl
theorem x_tyR : tyM ω (.ref a) = tyC (ω a) := by
  show (match ω a with | some (.lst _) => "list" | some (.dk _) => "dict" | some (.dt _) => "dict" | _ => "") = _
  cases ω a with
  | none => rfl
  | some c => cases c <;> rfl
theorem x_tyC0 : tyC (some (.lst ds)) = "list" := rfl
theorem x_tyC1 {kvs : List (Key × D)} : tyC (some (.dk kvs)) = "dict" := rfl
theorem x_tyC2 {kvs : List (List Key × D)} : tyC (some (.dt kvs)) = "dict" := rfl
theorem x_needE {α : Type} {u : α} {P : Prop} : NeedW (u = u) P = P := x_need rfl
theorem x_app : (m_append : BM K).w (.ref a) [d] ω Φ = cL (ω a) fun ds => NeedW (ds.length < 16777216) (Φ .non (ω.set a (.lst (ds ++ [d])))) := rfl
theorem x_ext : (m_extend : BM K).w (.ref a) [d] ω Φ = cL (ω a) fun ds => optW (lstOf ω d) fun es => NeedW (ds.length + es.length ≤ 16777216) (Φ .non (ω.set a (.lst (ds ++ es)))) := rfl
theorem x_pop : (m_pop : BM K).w (.ref a) [] ω Φ = cL (ω a) fun ds => optW (ds[ds.length - 1]?) fun d => Φ d (ω.set a (.lst ds.dropLast)) := rfl
theorem x_popAt : (m_popAt : BM K).w (.ref a) [.int i] ω Φ = cL (ω a) fun ds => NeedW (-9223372036854775808 ≤ i ∧ i < 9223372036854775808) (optW (seqIndex? i ds.length) fun k => optW (ds[k]?) fun d => Φ d (ω.set a (.lst (ds.eraseIdx k)))) := rfl
theorem x_rev : (m_reverse : BM K).w (.ref a) [] ω Φ = cL (ω a) fun ds => Φ .non (ω.set a (.lst ds.reverse)) := rfl
theorem x_clr : (m_clear : BM K).w (.ref a) [] ω Φ = cL (ω a) fun ds => Φ .non (ω.set a (.lst [])) := rfl
theorem x_ins : (m_insert : BM K).w (.ref a) [.int i, d] ω Φ = cL (ω a) fun ds => NeedW (ds.length < 16777216 ∧ 0 ≤ i ∧ i < 9223372036854775808) (Φ .non (ω.set a (.lst (ds.take i.toNat ++ [d] ++ ds.drop i.toNat)))) := rfl
theorem x_split : (m_split : BM K).w (.str s) [.str t] ω Φ = NeedW (t ≠ []) (NeedW (t.all (· < 256) = true) (NeedW (s.length + 2 ≤ 16777216) (Φ (.lst ((TL.spl t 0 [] s).map .str)) ω))) := need3
theorem x_part : (m_partition : BM K).w (.str s) [.str t] ω Φ = NeedW (t ≠ []) (NeedW (s.length ≤ 16777216) (Φ (.tup ((parL s t).map .str)) ω)) := need2
theorem x_join : (m_join : BM K).w (.str s) [d] ω Φ = optW (seqOf ω d) fun es => optW (strsOf es) fun ts => NeedW ((ts.map (·.length)).sum + ts.length * s.length ≤ 16777216) (Φ (.str (TL.joinL s ts)) ω) := rfl
theorem x_zf : (m_zfill : BM K).w (.str s) [.int i] ω Φ = NeedW (0 ≤ i ∧ i ≤ 1000) (NeedW (s.head? ≠ some 43 ∧ s.head? ≠ some 45) (Φ (.str (zfL s i.toNat)) ω)) := need2
theorem x_sidx : (m_sindex : BM K).w (.str s) [.str [c]] ω Φ = NeedW (c ∈ s) (∀ i : Nat, s[i]? = some c → Φ (.int i) ω) := rfl
theorem x_eqE0 : (oEqE : O2 K).w (.tup ds) (.tup []) ω Φ = Φ (.bl ds.isEmpty) ω := rfl
theorem x_eqE1 : (oEqE : O2 K).w d (.lst []) ω Φ = optW (lstOf ω d) fun ds => Φ (.bl ds.isEmpty) ω := propext optW_iff.symm
end
def setW (ρ : En) (i : Nat) (v : Option D) (G : En → Prop) : Prop := G (ρ.set i v)
section
variable {K : Fg} {ρ : En} {ω : Om} {Φ : D → Om → Prop} {Ψ : Exn → Om → Prop} {A : BE K} {d e : D} {i : Int} {s : List Nat} {x : Bool} {ds es : List D} {a b : Addr} {ns : List Int} {ts : List (List Nat)} {bs : List Bool} {G : En → Prop} {u v : Option D} {r : En} {n : Nat} {F : D → Prop} {FL : List D → Prop}
theorem x_set0 : setW (u :: r) 0 v G = G (v :: r) := rfl
theorem x_set1 : setW (u :: r) (n + 1) v G = setW r n v fun r' => G (u :: r') := rfl
theorem x_gNs {j : Nat} {F : En → Om → Prop} : (bgN j : BG K).w d ρ ω F = setW ρ j (some d) fun ρ' => F ρ' ω := rfl
theorem x_augs {nx bk ct : En → Om → Prop} {rt : D → Om → Prop} {xc : Exn → En → Om → Prop} {j : Nat} {o : O2 K} : (bsAug j A o).w ρ ω ⟨nx, rt, bk, ct, xc⟩ = varW ρ[j]? fun d => A.w ρ ω (fun y ω1 => o.w d y ω1 fun v ω2 => setW ρ j (some v) fun ρ' => nx ρ' ω2) fun x ω1 => xc x ρ ω1 := rfl
theorem x_vr0 : varW (some d :: r)[0]? F = F d := rfl
theorem x_vr1 : varW (u :: r)[n + 1]? F = varW r[n]? F := rfl
section
variable {α : Type} {c0 c1 c2 c3 c4 c5 c6 c7 c8 c9 c10 : α} {q : List α} {F : α → Prop}
theorem x_oa0 : optW (atI (c0 :: q) 0) F = F c0 := by rw [x_at0]; rfl
theorem x_oa1 : optW (atI (c0 :: c1 :: q) 1) F = F c1 := by rw [x_at1]; rfl
theorem x_oa2 : optW (atI (c0 :: c1 :: c2 :: q) 2) F = F c2 := by rw [x_at2]; rfl
theorem x_oa3 : optW (atI (c0 :: c1 :: c2 :: c3 :: q) 3) F = F c3 := by rw [x_at3]; rfl
theorem x_oa4 : optW (atI (c0 :: c1 :: c2 :: c3 :: c4 :: q) 4) F = F c4 := by rw [x_at4]; rfl
theorem x_oa5 : optW (atI (c0 :: c1 :: c2 :: c3 :: c4 :: c5 :: q) 5) F = F c5 := by rw [x_at5]; rfl
theorem x_oa6 : optW (atI (c0 :: c1 :: c2 :: c3 :: c4 :: c5 :: c6 :: q) 6) F = F c6 := by rw [x_at6]; rfl
theorem x_oa7 : optW (atI (c0 :: c1 :: c2 :: c3 :: c4 :: c5 :: c6 :: c7 :: q) 7) F = F c7 := by rw [x_at7]; rfl
theorem x_oa8 : optW (atI (c0 :: c1 :: c2 :: c3 :: c4 :: c5 :: c6 :: c7 :: c8 :: q) 8) F = F c8 := by rw [x_at8]; rfl
theorem x_oa9 : optW (atI (c0 :: c1 :: c2 :: c3 :: c4 :: c5 :: c6 :: c7 :: c8 :: c9 :: q) 9) F = F c9 := by rw [x_at9]; rfl
theorem x_oa10 : optW (atI (c0 :: c1 :: c2 :: c3 :: c4 :: c5 :: c6 :: c7 :: c8 :: c9 :: c10 :: q) 10) F = F c10 := by rw [x_at10]; rfl
end
theorem x_cLS : cL (ω.set a (.lst ds) a) FL = FL ds := by rw [Om.set_same]; rfl
theorem x_cLN {c : Cell} (h : b ≠ a) : cL (ω.set a c b) FL = cL (ω b) FL := by rw [Om.set_ne h]
theorem x_ssL : optW (seqOf ω (.lst ds)) FL = FL ds := rfl
theorem x_ssT : optW (seqOf ω (.tup ds)) FL = FL ds := rfl
theorem x_ssC : optW (seqOf ω (.scr ns)) FL = FL (ns.map .int) := rfl
theorem x_slsL : optW (lstOf ω (.lst ds)) FL = FL ds := rfl
theorem x_oi {F : List Int → Prop} : optW (intsOf (ns.map .int)) F = F ns := by rw [intsOf_map]; rfl
theorem x_oi0 {F : List Int → Prop} : optW (intsOf []) F = F [] := rfl
theorem x_oi1 {F : List Int → Prop} : optW (intsOf (.int i :: ds)) F = optW (intsOf ds) fun r => F (i :: r) := by
  show optW ((intsOf ds).map (i :: ·)) F = _
  cases intsOf ds <;> rfl
theorem x_os {F : List (List Nat) → Prop} : optW (strsOf (ts.map .str)) F = F ts := by rw [strsOf_map]; rfl
theorem x_os0 {F : List (List Nat) → Prop} : optW (strsOf []) F = F [] := rfl
theorem x_os1 {F : List (List Nat) → Prop} : optW (strsOf (.str s :: ds)) F = optW (strsOf ds) fun r => F (s :: r) := by
  show optW ((strsOf ds).map (s :: ·)) F = _
  cases strsOf ds <;> rfl
theorem x_ob {F : List Bool → Prop} : optW (blsOf (bs.map .bl)) F = F bs := by rw [blsOf_map]; rfl
theorem x_ob0 {F : List Bool → Prop} : optW (blsOf []) F = F [] := rfl
theorem x_ob1 {F : List Bool → Prop} : optW (blsOf (.bl x :: ds)) F = optW (blsOf ds) fun r => F (x :: r) := by
  show optW ((blsOf ds).map (x :: ·)) F = _
  cases blsOf ds <;> rfl
theorem x_ntS {P : Prop} : NeedW (tyM ω (.str s) = "str") P = P := x_need rfl
theorem x_ntL {P : Prop} : NeedW (tyM ω (.lst ds) = "list") P = P := x_need rfl
theorem x_ntR {P : Prop} : NeedW (tyM (ω.set a (.lst ds)) (.ref a) = "list") P = P := x_need (by rw [x_tyR, Om.set_same]; rfl)
theorem x_ntN {c : Cell} {T : String} {P : Prop} (h : b ≠ a) : NeedW (tyM (ω.set a c) (.ref b) = T) P = NeedW (tyM ω (.ref b) = T) P := by rw [x_tyR, x_tyR, Om.set_ne h]
end
section
variable {α : Type} {c0 c1 c2 : α} {q : List α}
theorem x_cutT1 : cut (c0 :: q) none (some 1) = [c0] := by rw [cut_to _ (by omega)]; rfl
theorem x_cutT2 : cut (c0 :: c1 :: q) none (some 2) = [c0, c1] := by rw [cut_to _ (by omega)]; rfl
theorem x_cutT0 : cut q none (some 0) = [] := by rw [cut_to _ (by omega)]; simp
theorem x_cutF1 : cut (c0 :: q) (some 1) none = q := by rw [cut_from _ (by omega)]; rfl
theorem x_cutF2 : cut (c0 :: c1 :: q) (some 2) none = q := by rw [cut_from _ (by omega)]; rfl
theorem x_cutF3 : cut (c0 :: c1 :: c2 :: q) (some 3) none = q := by rw [cut_from _ (by omega)]; rfl
end
section
variable {K : Fg} {ρ : En} {ω : Om} {gs : BGs K} {F : En → Om → Prop} {a b c d e : D}
theorem x_gT2 : (bgT 2 gs).w (.tup [a, b]) ρ ω F = gs.w [a, b] ρ ω F := cond rfl
theorem x_gT3 : (bgT 3 gs).w (.tup [a, b, c]) ρ ω F = gs.w [a, b, c] ρ ω F := cond rfl
theorem x_gT4 : (bgT 4 gs).w (.tup [a, b, c, d]) ρ ω F = gs.w [a, b, c, d] ρ ω F := cond rfl
theorem x_gT5 : (bgT 5 gs).w (.tup [a, b, c, d, e]) ρ ω F = gs.w [a, b, c, d, e] ρ ω F := cond rfl
end
def apD (xs ds : List D) (G : List D → Prop) : Prop := G (xs ++ ds)
section
variable {K : Fg} {ρ : En} {ω : Om} {Φ : D → Om → Prop} {Ψ : Exn → Om → Prop} {As : BA K} {d : D} {xs ds : List D} {G : List D → Prop}
theorem x_apd0 : apD [] ds G = G ds := rfl
theorem x_apd1 : apD (d :: xs) ds G = apD xs ds fun r => G (d :: r) := rfl
theorem x_call0 {W : WP} {hd} : (bCall W [] [] hd As).w ρ ω Φ Ψ = As.w ρ ω (fun xs ω1 => W xs ω1 Φ) Ψ := by
  show As.w ρ ω (fun xs ω1 => W (xs ++ []) ω1 Φ) Ψ = _
  congr
  funext xs ω1
  rw [List.append_nil]
theorem x_callD {W : WP} {vs : List V} {v : V} {hd} : (bCall W (v :: vs) (d :: ds) hd As).w ρ ω Φ Ψ = As.w ρ ω (fun xs ω1 => apD xs (d :: ds) fun r => W r ω1 Φ) Ψ := rfl
end
end
end T
namespace L2
open PySem PySem.Spec PyProof.Rows
section
def rRep01 (K : PySem.W.Frag) : R2 := fun x y H Q => ∃ l k xs, x = .ref l ∧ y = .int k ∧ SqT K H l xs ∧ xs ≠ [] ∧ ((k = 1 ∧ Q (.ref l) H) ∨ (k = 0 ∧ ∀ p, H p = none → Q (.ref p) (upd H p (.tup []))))
end
end L2
namespace T
open PySem L2
section
section
variable {K : Fg}
def oMulTup : O2 K where
  r := fun x y H Q => rRep01 K x y H Q ∨ rRepT K x y H Q
  w := fun x y ω Φ => match x, y with
    | .tup ds, .int k => (ds ≠ [] ∧ ds.length ≤ 1000 ∧ 0 ≤ k ∧ k ≤ 1000) ∧ Φ (.tup (List.replicate k.toNat ds).flatten) ω
    | _, _ => False
  ok := fun z x y d e Q Φ h k r1 r2 q => by
    split at h
    · rename_i ds m
      obtain ⟨⟨h1, h2, h3, h4⟩, h⟩ := h
      obtain ⟨a, xs, rfl, ha, rx⟩ := rep_tup r1
      cases r2
      have hx : xs ≠ [] := fun e => by subst e; cases rx; exact h1 rfl
      by_cases c1 : m = 1
      · subst c1
        refine .inl ⟨a, 1, xs, rfl, rfl, k.fz.sqt ha, hx, .inl ⟨rfl, ?_⟩⟩
        refine q _ z _ k.to (.tup ha rx) ?_
        simpa using h
      · by_cases c0 : m = 0
        · subst c0
          refine .inl ⟨a, 0, xs, rfl, rfl, k.fz.sqt ha, hx, .inr ⟨rfl, fun p hp => ?_⟩⟩
          have t := k.add (o := .tup []) hp
          exact q _ _ _ t (.tup (SqT.of upd_same) .nil) h
        · have rr : ∀ n : Nat, RepL K z.d (List.replicate n xs).flatten (List.replicate n ds).flatten := fun n => by
            induction n with
            | zero => exact .nil
            | succ n ih =>
              rw [List.replicate_succ, List.flatten_cons, List.replicate_succ, List.flatten_cons]
              exact rx.append ih
          refine .inr ⟨a, m, xs, rfl, rfl, k.fz.sqt ha, hx, by omega, h4, by rw [rx.length]; exact h2, fun p hp => ?_⟩
          have t := k.add (o := .tup (List.replicate m.toNat xs).flatten) hp
          exact q _ _ _ t (.tup (SqT.of upd_same) ((rr _).mono t.ex)) h
    · exact h.elim
theorem x_mulT {ω : Om} {Φ : D → Om → Prop} {ds : List D} {k : Int} : (oMulTup : O2 K).w (.tup ds) (.int k) ω Φ = NeedW (ds ≠ [] ∧ ds.length ≤ 1000 ∧ 0 ≤ k ∧ k ≤ 1000) (Φ (.tup (List.replicate k.toNat ds).flatten) ω) := rfl
end
end
end T
namespace L2
open PySem PySem.Spec PyProof.Rows RT
section
def IsRs (h : Heap) (a : Addr) (x : Str) (t : Tok) (i : Int) : Prop := ∃ o, h.get? a = some o ∧ o.cls = .type "reversed" ∧ o.data = .fields #[.str x t, rawInt i]
section
variable {prog : Program} {w : World} {A : Around} {E : Value → Shared → Prop} {s : Shared} {x : Str} {t : Tok}
theorem IsRs.ty {a : Addr} {i : Int} (r : IsRs s.heap a x t i) : s.TypeIs (.ref a) "reversed" := by
  obtain ⟨o, ho, hc, _⟩ := r
  exact ⟨o, ho, hc⟩
end
def Itrs (x : Str) : It := ⟨fun i _ => i < x.length ∧ x.length ≤ sizeLine, fun i H v H' => H' = H ∧ ∃ c, x.cps[x.length - 1 - i]? = some c ∧ v = .str ⟨#[c]⟩, fun i _ => x.length ≤ i⟩
def iRevS (te : TE) : TI := fun σ H R => te σ H fun v H1 => ∃ x : Str, v = .str x ∧ x.length ≤ sizeLine ∧ R (Itrs x) H1
end
end L2
namespace T
open PySem L2
section
section
variable {K : Fg}
def lstX (ω : Om) : D → Option (List D)
  | .lst ds => some ds
  | .scr ns => some (ns.map .int)
  | .ref a => match ω a with
    | some (.lst ds) => some ds
    | _ => none
  | _ => none
theorem lstX_of {z : Z} (k : z.Ok K) {v : V} {d : D} {ds : List D} (r : Rep K z.d v d) (h : lstX z.o d = some ds) : ∃ a xs, v = .ref a ∧ SqL K z.h a xs ∧ RepL K z.d xs ds := by
  cases r with
  | lst h1 h2 => cases h; exact ⟨_, _, rfl, SqL.of (k.fz _ _ h1), h2⟩
  | @scr a ns h1 => cases h; exact ⟨_, _, rfl, k.fz.sql h1, .of_ints ns⟩
  | ref a =>
    cases e : z.o a with
    | none => simp [lstX, e] at h
    | some c =>
      cases c with
      | lst es =>
        simp [lstX, e] at h
        subst h
        obtain ⟨_, xs, h1, h2⟩ := k.cell a _ e
        exact ⟨a, xs, rfl, SqL.of h1, h2⟩
      | _ => simp [lstX, e] at h
  | _ => simp [lstX] at h
theorem it_rev {z : Z} {a : Addr} {d : D} {ds : List D} {n : Nat} (hr : Rep K z.d (.ref a) d) (hn : n = ds.length) : ItOk K (Itv K a n) z ds.reverse fun ω => lstX ω d = some ds where
  go := fun i z1 t hc hi => by
    subst hn
    have hi : i < ds.length := by simpa using hi
    obtain ⟨b, xs, e, hs, rx⟩ := lstX_of t.ok (hr.mono t.ex) hc
    cases e
    have hj : ds.length - 1 - i < ds.length := by omega
    obtain ⟨x, hx, rx2⟩ := rx.get (List.getElem?_eq_getElem hj)
    refine ⟨⟨hi, xs, x, hs, hx⟩, fun y H' hy => ⟨z1, ds[ds.length - 1 - i], t.ok.to, hy.1.symm, rfl, ?_, ?_⟩⟩
    · rw [List.getElem?_reverse hi, List.getElem?_eq_getElem hj]
    · have := hy.2 xs hs
      rw [hx] at this; cases this
      exact rx2
  stop := fun i z1 t _ hi => by
    subst hn
    show ds.length ≤ i
    simpa using hi
def biRev (a : BA K) : BI K where
  t := fun W => iRev K (a.t W)
  w := fun ρ ω Φ Ψ => a.w ρ ω (fun xs ω1 => match xs with
    | [d] => optW (lstX ω1 d) fun ds => Φ ds.reverse (fun ω' => lstX ω' d = some ds) ω1
    | _ => False) Ψ
  ok := fun W ρ z σ R Φ Ψ h o r q qx => by
    refine a.ok W ρ z σ _ _ Ψ h o r (fun vs z1 ds t1 r1 h1 => ?_) qx
    split at h1
    · obtain ⟨x, rfl, rx⟩ := rep1 r1
      obtain ⟨es, e1, h2⟩ := optW_iff.mp h1
      obtain ⟨b, xs, rfl, hs, ry⟩ := lstX_of t1.ok rx e1
      exact ⟨b, xs, rfl, hs, q _ z1 _ _ t1 (it_rev rx ry.length) h2⟩
    · exact h1.elim
theorem it_revS (z : Z) (s : List Nat) (hz : s.length ≤ sizeLine) : ItOk K (Itrs ⟨s.toArray⟩) z (s.reverse.map fun c => .str [c]) fun _ => True where
  go := fun i z1 t _ hi => by
    have hi : i < s.length := by simpa using hi
    have hl := sOf_len s
    refine ⟨⟨by rw [hl]; exact hi, by rw [hl]; exact hz⟩, fun y H' hy => ?_⟩
    obtain ⟨e0, c, hc, rfl⟩ := hy
    have hj : s.length - 1 - i < s.length := by omega
    have hc2 : s[s.length - 1 - i]? = some c := by
      have : s.toArray[(⟨s.toArray⟩ : Str).length - 1 - i]? = some c := hc
      rw [hl] at this
      simpa using this
    refine ⟨z1, .str [c], t.ok.to, e0.symm, rfl, ?_, .str [c]⟩
    rw [List.getElem?_map, List.getElem?_reverse hi, hc2]
    rfl
  stop := fun i z1 t _ hi => by
    show (⟨s.toArray⟩ : Str).length ≤ i
    rw [sOf_len]
    simpa using hi
def biRevS (e : BE K) : BI K where
  t := fun W => iRevS (e.t W)
  w := fun ρ ω Φ Ψ => e.w ρ ω (fun x ω1 => match x with
    | .str s => NeedW (s.length ≤ 16777216) (Φ (s.reverse.map fun c => .str [c]) (fun _ => True) ω1)
    | _ => False) Ψ
  ok := fun W ρ z σ R Φ Ψ h o r q qx => by
    refine e.ok W ρ z σ _ _ Ψ h o r (fun v z1 d t1 r1 h1 => ?_) qx
    split at h1
    · rename_i s
      cases r1
      have hz : s.length ≤ sizeLine := by rw [sizeLine_eq]; exact h1.1
      exact ⟨_, rfl, by rw [sOf_len]; exact hz, q _ z1 _ _ t1 (it_revS z1 s hz) h1.2⟩
    · exact h1.elim
def zipD (ds es : List D) : List D := List.zipWith (fun x y => .tup [x, y]) ds es
def enumD (n : Nat) : List D → List D
  | [] => []
  | d :: r => .tup [.int (n : Nat), d] :: enumD (n + 1) r
theorem enumD_len : ∀ (n : Nat) (ds : List D), (enumD n ds).length = ds.length
  | _, [] => rfl
  | n, d :: r => by simp [enumD, enumD_len (n + 1) r]
theorem enumD_get : ∀ (n : Nat) (ds : List D) (i : Nat), (enumD n ds)[i]? = ds[i]?.map fun d => .tup [.int ((n + i : Nat) : Int), d]
  | _, [], i => by simp [enumD]
  | n, d :: r, 0 => by simp [enumD]
  | n, d :: r, i + 1 => by
    simp only [enumD, List.getElem?_cons_succ]
    rw [enumD_get (n + 1) r i]
    have : n + 1 + i = n + (i + 1) := by omega
    rw [this]
theorem it_zip {z : Z} {a b : Addr} {d e : D} {ds es : List D} (hd : Rep K z.d (.ref a) d) (he : Rep K z.d (.ref b) e) : ItOk K (Itz K a b) z (zipD ds es) fun ω => lstX ω d = some ds ∧ lstX ω e = some es where
  go := fun i z1 t hc hi => by
    have hi : i < min ds.length es.length := by simpa [zipD] using hi
    obtain ⟨a', xs, e1, hs1, rx⟩ := lstX_of t.ok (hd.mono t.ex) hc.1
    obtain ⟨b', ys, e2, hs2, ry⟩ := lstX_of t.ok (he.mono t.ex) hc.2
    cases e1; cases e2
    have h1 : i < ds.length := by omega
    have h2 : i < es.length := by omega
    obtain ⟨x, hx, rx2⟩ := rx.get (List.getElem?_eq_getElem h1)
    obtain ⟨y, hy, ry2⟩ := ry.get (List.getElem?_eq_getElem h2)
    refine ⟨⟨xs, ys, x, y, hs1, hs2, hx, hy⟩, fun u H' hu => ?_⟩
    obtain ⟨p, x', y', rfl, hp, rfl, g1, g2⟩ := hu
    have := g1 xs hs1
    rw [hx] at this; cases this
    have := g2 ys hs2
    rw [hy] at this; cases this
    have tt := t.ok.add (o := .tup [x, y]) hp
    refine ⟨_, .tup [ds[i], es[i]], tt, rfl, rfl, ?_, .tup (SqT.of upd_same) (.cons (rx2.mono tt.ex) (.cons (ry2.mono tt.ex) .nil))⟩
    simp [zipD, List.getElem?_zipWith, h1, h2]
  stop := fun i z1 t hc hi => by
    have hi : min ds.length es.length ≤ i := by simpa [zipD] using hi
    obtain ⟨a', xs, e1, hs1, rx⟩ := lstX_of t.ok (hd.mono t.ex) hc.1
    obtain ⟨b', ys, e2, hs2, ry⟩ := lstX_of t.ok (he.mono t.ex) hc.2
    cases e1; cases e2
    exact ⟨xs, ys, hs1, hs2, by rw [rx.length, ry.length]; omega⟩
def biZip (a : BA K) : BI K where
  t := fun W => iZip K (a.t W)
  w := fun ρ ω Φ Ψ => a.w ρ ω (fun xs ω1 => match xs with
    | [d, e] => optW (lstX ω1 d) fun ds => optW (lstX ω1 e) fun es => Φ (zipD ds es) (fun ω' => lstX ω' d = some ds ∧ lstX ω' e = some es) ω1
    | _ => False) Ψ
  ok := fun W ρ z σ R Φ Ψ h o r q qx => by
    refine a.ok W ρ z σ _ _ Ψ h o r (fun vs z1 ds t1 r1 h1 => ?_) qx
    split at h1
    · obtain ⟨x, y, rfl, rx, ry⟩ := rep2 r1
      obtain ⟨us, e1, h2⟩ := optW_iff.mp h1
      obtain ⟨ws, e2, h3⟩ := optW_iff.mp h2
      obtain ⟨b, xs, rfl, hs, _⟩ := lstX_of t1.ok rx e1
      obtain ⟨c, ys, rfl, hs2, _⟩ := lstX_of t1.ok ry e2
      exact ⟨b, c, xs, ys, rfl, hs, hs2, q _ z1 _ _ t1 (it_zip rx ry) h3⟩
    · exact h1.elim
theorem it_enum {z : Z} {a : Addr} {d : D} {ds : List D} (hd : Rep K z.d (.ref a) d) : ItOk K (Ite K a) z (enumD 0 ds) fun ω => lstX ω d = some ds where
  go := fun i z1 t hc hi => by
    have hi : i < ds.length := by rw [enumD_len] at hi; exact hi
    obtain ⟨a', xs, e1, hs1, rx⟩ := lstX_of t.ok (hd.mono t.ex) hc
    cases e1
    obtain ⟨x, hx, rx2⟩ := rx.get (List.getElem?_eq_getElem hi)
    refine ⟨⟨xs, x, hs1, hx⟩, fun u H' hu => ?_⟩
    obtain ⟨p, x', rfl, hp, rfl, g1⟩ := hu
    have := g1 xs hs1
    rw [hx] at this; cases this
    have tt := t.ok.add (o := .tup [.int (i : Nat), x]) hp
    refine ⟨_, .tup [.int (i : Nat), ds[i]], tt, rfl, rfl, ?_, .tup (SqT.of upd_same) (.cons (.int _) (.cons (rx2.mono tt.ex) .nil))⟩
    rw [enumD_get, List.getElem?_eq_getElem hi]
    simp
  stop := fun i z1 t hc hi => by
    obtain ⟨a', xs, e1, hs1, rx⟩ := lstX_of t.ok (hd.mono t.ex) hc
    cases e1
    exact ⟨xs, hs1, by rw [rx.length]; rw [enumD_len] at hi; exact hi⟩
def biEnum (a : BA K) : BI K where
  t := fun W => iEnum K (a.t W)
  w := fun ρ ω Φ Ψ => a.w ρ ω (fun xs ω1 => match xs with
    | [d] => optW (lstX ω1 d) fun ds => Φ (enumD 0 ds) (fun ω' => lstX ω' d = some ds) ω1
    | _ => False) Ψ
  ok := fun W ρ z σ R Φ Ψ h o r q qx => by
    refine a.ok W ρ z σ _ _ Ψ h o r (fun vs z1 ds t1 r1 h1 => ?_) qx
    split at h1
    · obtain ⟨x, rfl, rx⟩ := rep1 r1
      obtain ⟨us, e1, h2⟩ := optW_iff.mp h1
      obtain ⟨b, xs, rfl, hs, _⟩ := lstX_of t1.ok rx e1
      exact ⟨b, xs, rfl, hs, q _ z1 _ _ t1 (it_enum rx) h2⟩
    · exact h1.elim
def bFmt (a : BE K) : BE K where
  t := fun W => tFmt (a.t W)
  w := fun ρ ω Φ Ψ => a.w ρ ω (fun x ω1 => match x with
    | .int i => (cStr : CB K).w [.int i] ω1 Φ
    | _ => False) Ψ
  ok := fun W ρ z σ Q Φ Ψ h k r q qx => by
    refine a.ok W ρ z σ _ _ Ψ h k r (fun x z1 d t1 r1 h1 => ?_) qx
    split at h1
    · cases r1
      exact .inr ⟨_, rfl, h1.1, q _ z1 _ t1 (rep_strI _) h1.2⟩
    · exact h1.elim
def strW (d : D) (F : List Nat → Prop) : Prop := match d with
  | .str s => F s
  | _ => False
theorem strW_rep {H : Hp} {v : V} {d : D} {F : List Nat → Prop} (h : strW d F) (r : Rep K H v d) : ∃ s, v = .str ⟨s.toArray⟩ ∧ F s := by
  cases r <;> first | exact ⟨_, rfl, h⟩ | exact h.elim
def bJoin2 (a b : BE K) : BE K where
  t := fun W => fun σ H Q => tJs [a.t W, b.t W] Str.empty σ H fun out H1 => Q (.str out) H1
  w := fun ρ ω Φ Ψ => a.w ρ ω (fun x ω1 => strW x fun s => NeedW (s.length ≤ 16777216) (b.w ρ ω1 (fun y ω2 => strW y fun t => NeedW (s.length + t.length ≤ 16777216) (Φ (.str (s ++ t)) ω2)) Ψ)) Ψ
  ok := fun W ρ z σ Q Φ Ψ h k r q qx => by
    refine a.ok W ρ z σ _ _ Ψ h k r (fun x z1 d t1 r1 h1 => ?_) qx
    obtain ⟨s, rfl, h1⟩ := strW_rep h1 r1
    have e0 : Str.empty ++ (⟨s.toArray⟩ : Str) = ⟨s.toArray⟩ := sOf_append [] s
    have inner : b.w ρ z1.o (fun y ω2 => strW y fun t => NeedW (s.length + t.length ≤ 16777216) (Φ (.str (s ++ t)) ω2)) Ψ := h1.2
    refine ⟨_, rfl, ?_, ?_⟩
    · rw [e0, sOf_len, sizeLine_eq]
      exact h1.1
    · rw [e0]
      refine b.ok W ρ z1 σ _ _ Ψ inner t1.ok (r.mono t1.ex) (fun y z2 e t2 r2 h2 => ?_) fun x cls d z2 t2 => qx x cls d z2 (t1.trans t2)
      obtain ⟨t, rfl, h2⟩ := strW_rep h2 r2
      refine ⟨_, rfl, ?_, ?_⟩
      · rw [sOf_append, sOf_len, sizeLine_eq, List.length_append]; exact h2.1
      · rw [sOf_append]
        exact q _ z2 _ (t1.trans t2) (.str _) h2.2
def bsNo : BS K where
  t := fun _ _ _ _ => False
  w := fun _ _ _ => False
  ok := fun W ρ z σ D' k h o r hk => h
end
section
variable {X : Cx} {W : WX} {st : Stmt} {e e2 tg : Expr} {es elts : List Expr} {A B : BE X.K} {As : BA X.K} {p pos tpos : Pos} {kk : Nat}
theorem I_zip (hm : X.mg "zip" = none) (ha : PA X [e, e2] (As.t W)) (hg : Gl X "zip" := by rfl) (hs : starEach [e, e2] X.env = (false, eval e X.env) :: starEach [e2] X.env := by rfl) (hpl : (backTo pos (starEach [e2] X.env)).any (·.1) = false := by rfl) : PI X (.Tuple elts kk tpos) (.Call (.Name "zip" p) [e, e2] [] pos) ((biZip As).t W) := pi_zip hg hm ha hs hpl
end
section
variable {K : Fg} {ρ : En} {ω : Om} {Φ : D → Om → Prop} {Ψ : Exn → Om → Prop} {A B : BE K} {As : BA K} {d e : D} {i : Int} {s : List Nat} {ds : List D} {a : Addr} {ns : List Int} {Fi : List D → (Om → Prop) → Om → Prop} {FL : List D → Prop}
theorem x_fmt : (bFmt A).w ρ ω Φ Ψ = A.w ρ ω (fun x ω1 => intW x fun i => (cStr : CB K).w [.int i] ω1 Φ) Ψ := by
  show A.w ρ ω (fun x ω1 => match x with | .int i => (cStr : CB K).w [.int i] ω1 Φ | _ => False) Ψ = _
  congr
theorem x_strW {F : List Nat → Prop} : strW (.str s) F = F s := rfl
theorem x_join2 : (bJoin2 A B).w ρ ω Φ Ψ = A.w ρ ω (fun x ω1 => strW x fun s => NeedW (s.length ≤ 16777216) (B.w ρ ω1 (fun y ω2 => strW y fun t => NeedW (s.length + t.length ≤ 16777216) (Φ (.str (s ++ t)) ω2)) Ψ)) Ψ := rfl
def lxL (xs : List D) (ω : Om) (Φ : List D → (Om → Prop) → Om → Prop) (g : List D → List D) : Prop := match xs with
  | [d] => optW (lstX ω d) fun ds => Φ (g ds) (fun ω' => lstX ω' d = some ds) ω
  | _ => False
theorem x_birev : (biRev As).w ρ ω Fi Ψ = As.w ρ ω (fun xs ω1 => lxL xs ω1 Fi List.reverse) Ψ := rfl
theorem x_bienum : (biEnum As).w ρ ω Fi Ψ = As.w ρ ω (fun xs ω1 => lxL xs ω1 Fi (enumD 0)) Ψ := rfl
theorem x_lxL {g : List D → List D} : lxL [d] ω Fi g = optW (lstX ω d) fun ds => Fi (g ds) (fun ω' => lstX ω' d = some ds) ω := rfl
def lxZ (xs : List D) (ω : Om) (Φ : List D → (Om → Prop) → Om → Prop) : Prop := match xs with
  | [d, e] => optW (lstX ω d) fun ds => optW (lstX ω e) fun es => Φ (zipD ds es) (fun ω' => lstX ω' d = some ds ∧ lstX ω' e = some es) ω
  | _ => False
theorem x_bizip : (biZip As).w ρ ω Fi Ψ = As.w ρ ω (fun xs ω1 => lxZ xs ω1 Fi) Ψ := rfl
theorem x_lxZ : lxZ [d, e] ω Fi = optW (lstX ω d) fun ds => optW (lstX ω e) fun es => Fi (zipD ds es) (fun ω' => lstX ω' d = some ds ∧ lstX ω' e = some es) ω := rfl
theorem x_birevS : (biRevS A).w ρ ω Fi Ψ = A.w ρ ω (fun x ω1 => strW x fun s => NeedW (s.length ≤ 16777216) (Fi (s.reverse.map fun c => .str [c]) (fun _ => True) ω1)) Ψ := rfl
theorem x_lxx0 : optW (lstX ω (.lst ds)) FL = FL ds := rfl
theorem x_lxx1 : optW (lstX ω (.scr ns)) FL = FL (ns.map .int) := rfl
theorem x_lxx2 : optW (lstX ω (.ref a)) FL = cL (ω a) FL := by
  show optW (match ω a with | some (.lst ds) => some ds | _ => none) FL = _
  cases ω a with
  | none => rfl
  | some c => cases c <;> rfl
theorem x_no {nx bk ct : En → Om → Prop} {rt : D → Om → Prop} {xc : Exn → En → Om → Prop} : (bsNo : BS K).w ρ ω ⟨nx, rt, bk, ct, xc⟩ = False := rfl
end
section
variable {K : Fg} {ω : Om} {Φ : D → Om → Prop} {i j : Int}
theorem x_band : (oAnd : O2 K).w (.int i) (.int j) ω Φ = Φ (.int (PySem.Builtin.bitAnd i j)) ω := rfl
theorem x_bor : (oOr : O2 K).w (.int i) (.int j) ω Φ = Φ (.int (PySem.Builtin.bitOr i j)) ω := rfl
theorem x_bxor : (oXor : O2 K).w (.int i) (.int j) ω Φ = Φ (.int (PySem.Builtin.bitXor i j)) ω := rfl
theorem x_shl (h : CShA i j) : (oShl : O2 K).w (.int i) (.int j) ω Φ = Φ (.int (i * 2 ^ j.toNat)) ω := propext ⟨fun z => z.2, fun z => ⟨h, z⟩⟩
end
end
section
def rMaxD (K : Fg) : List V → List V → Hp → VK → Prop := fun vs zs H Q => ∃ (a : Addr) (ns : List Int) (z : V), vs = [.ref a] ∧ zs = [z] ∧ SqL K H a (ns.map V.int) ∧ (ns = [] → Q z H) ∧ ∀ m, m ∈ ns → (∀ y, y ∈ ns → y ≤ m) → Q (.int m) H
theorem cr_maxD {X : Cx} (hc : X.calm = true) : CallRK X (.builtin "max") ["default"] (rMaxD X.K) := by
  intro pins s σ H xs zs us ws Q I rx rz h
  obtain ⟨a, ns, z, rfl, rfl, hs, q0, q1⟩ := h
  obtain ⟨its, rv, hl, _⟩ := I.list hs
  rw [Vals.ref1 rx]
  cases rz with
  | cons hz hn =>
  cases hn
  obtain ⟨xs, e⟩ := rv.ints.allInts.items
  have hi : PySem.numsOf (intItems xs).toList = ns := by rw [← e]; exact rv.ints.numsOf
  rw [PySem.nums_intItems] at hi
  subst hi
  have hl := hl.isList
  rw [e] at hl
  have hsz : (intItems xs).size = xs.size := by simp [intItems]
  refine call_max_walkD (PySem.W.iter_listW (A := X.A.in1) (I.ok.hd hc) hl fun s₂ e2 W st hfp hw hk => ?_)
  refine ⟨_, _, _, _, _, _, _, s.heap, (fun i j => decide (numAt xs i > numAt xs j)), rfl, W, st, hfp, hw, hk, fun hz0 s' m => ?_, fun hp => ⟨fun i j vi vj s' Q' E' _ h1 h2 h3 => CmpOf.ints_gt (numAt xs) (P := fun i v => (intItems xs)[i]? = some v) (fun _ _ => intItems_at) i j vi vj s' Q' E' h1 h2 h3, fun v s' hP m => ?_⟩⟩
  · obtain ⟨h', tk, rfl, hk'⟩ := PySem.W.moved_old e2 rfl m
    refine ⟨z, H, I.kept hk', hz, q0 ?_⟩
    have : xs.size = 0 := by rw [← hsz]; exact hz0
    simpa using this
  · obtain ⟨h', tk, rfl, hk'⟩ := PySem.W.moved_old e2 rfl m
    rw [hsz] at hp hP
    obtain ⟨t, rfl⟩ := intItems_at hP
    obtain ⟨h1, h2⟩ := argBest_gt (numAt xs) (xs.size - 1)
    refine ⟨.int _, H, I.kept hk', ⟨_, rfl⟩, q1 _ ?_ fun y hy => ?_⟩
    · rw [PySem.numAt_eq]; exact PySem.getD_mem (by rw [List.length_map, Array.length_toList]; omega)
    · obtain ⟨j, hj, rfl⟩ := PySem.mem_getD hy
      rw [List.length_map, Array.length_toList] at hj
      rw [← PySem.numAt_eq]; exact h2 j (by omega)
section
variable {K : Fg}
structure CBK (K : Fg) where
  r : List V → List V → Hp → VK → Prop
  w : List D → List D → Om → (D → Om → Prop) → Prop
  ok : ∀ (z : Z) (xs ys : List V) (ds es : List D) (Q : VK) (Φ : D → Om → Prop), w ds es z.o Φ → z.Ok K → RepL K z.d xs ds → RepL K z.d ys es → (∀ v z2 c, To K z z2 → Rep K z2.d v c → Φ c z2.o → Q v z2.h) → r xs ys z.h Q
def bCBK (c : CBK K) (a k : BA K) : BE K where
  t := fun W => tCKw c.r (a.t W) (k.t W)
  w := fun ρ ω Φ Ψ => a.w ρ ω (fun xs ω1 => k.w ρ ω1 (fun ys ω2 => c.w xs ys ω2 Φ) Ψ) Ψ
  ok := fun W ρ z σ Q Φ Ψ h o r q qx => by
    refine a.ok W ρ z σ _ _ Ψ h o r (fun xs z1 ds t1 r1 h1 => ?_) qx
    refine k.ok W ρ z1 σ _ _ Ψ h1 t1.ok (r.mono t1.ex) (fun ys z2 es t2 r2 h2 => ?_) fun x cls d z2 t2 => qx x cls d z2 (t1.trans t2)
    exact c.ok z2 xs ys ds es Q Φ h2 t2.ok (r1.mono t2.ex) r2 fun v z3 d t3 => q v z3 d ((t1.trans t2).trans t3)
def cMaxD : CBK K where
  r := rMaxD K
  w := fun ds es ω Φ => match ds, es with
    | [d], [e] => optW (lstOf ω d) fun us => optW (intsOf us) fun ns => (ns = [] → Φ e ω) ∧ ∀ m, m ∈ ns → (∀ y, y ∈ ns → y ≤ m) → Φ (.int m) ω
    | _, _ => False
  ok := fun z xs ys ds es Q Φ h k r r' q => by
    split at h
    · obtain ⟨x, rfl, r1⟩ := rep1 r
      obtain ⟨y, rfl, r2⟩ := rep1 r'
      obtain ⟨us, h1, h⟩ := optW_iff.mp h
      obtain ⟨ns, h2, h3, h⟩ := optW_iff.mp h
      obtain ⟨a, ys, rfl, ha, ry⟩ := lstOf_seq k r1 h1
      rw [intsOf_eq h2] at ry
      rw [RepL.ints ry] at ha
      exact ⟨a, ns, y, rfl, rfl, ha, fun c => q _ z _ k.to r2 (h3 c), fun m m1 m2 => q _ z _ k.to (.int _) (h m m1 m2)⟩
    · exact h.elim
theorem call_cMaxD {X : Cx} (hc : X.calm = true := by rfl) : CallRK X (.builtin "max") ["default"] (cMaxD (K := X.K)).r := cr_maxD hc
def cSortI (own : Bool) : CB K where
  r := rSortedI K
  w := fun ds ω Φ => match ds with
    | [d] => optW (lstOf ω d) fun us => optW (intsOf us) fun ns => ∀ ns' : List Int, ns'.Perm ns → ns'.Pairwise (· ≤ ·) → if own = true then ∀ a, ω a = none → Φ (.ref a) (ω.set a (.lst (ns'.map .int))) else Φ (.lst (ns'.map .int)) ω
    | _ => False
  ok := fun z xs ds Q Φ h k r q => by
    split at h
    · obtain ⟨x, rfl, r1⟩ := rep1 r
      obtain ⟨us, h1, h⟩ := optW_iff.mp h
      obtain ⟨ns, h2, h⟩ := optW_iff.mp h
      obtain ⟨a, ys, rfl, ha, ry⟩ := lstOf_seq k r1 h1
      rw [intsOf_eq h2] at ry
      rw [RepL.ints ry] at ha
      refine ⟨a, ns, rfl, ha, fun ns' p p1 p2 hp => ?_⟩
      have h3 := h ns' p1 p2
      cases own with
      | true =>
        have t := k.lay (o := .lst (ns'.map V.int)) (c := .lst (ns'.map .int)) hp ⟨_, upd_same, .of_ints ns'⟩
        exact q _ _ _ t (.ref p) (h3 p (k.free hp).2)
      | false =>
        have t := k.add (o := .lst (ns'.map V.int)) hp
        exact q _ _ _ t (.lst upd_same (.of_ints ns')) h3
    · exact h.elim
def bLenSetI (a : BE K) : BE K where
  t := fun W => RZ.tLenSetI K (a.t W)
  w := fun ρ ω Φ Ψ => a.w ρ ω (fun x ω1 => optW (lstOf ω1 x) fun us => optW (intsOf us) fun ns => NeedW (ns.Nodup ∧ ns.length ≤ 4000) (Φ (.int (ns.length : Nat)) ω1)) Ψ
  ok := fun W ρ z σ Q Φ Ψ h k r q qx => by
    refine a.ok W ρ z σ _ _ Ψ h k r (fun x z1 d t1 r1 h1 => ?_) qx
    obtain ⟨us, h2, h1⟩ := optW_iff.mp h1
    obtain ⟨ns, h3, h1⟩ := optW_iff.mp h1
    obtain ⟨l, ys, rfl, ha, ry⟩ := lstOf_seq t1.ok r1 h2
    rw [intsOf_eq h3] at ry
    rw [RepL.ints ry] at ha
    exact ⟨l, ns, rfl, ha, h1.1.1, h1.1.2, q _ z1 _ t1 (.int _) h1.2⟩
end
section
variable {X : Cx} {W : WX} {e a : Expr} {es : List Expr} {kws : List Keyword} {A : BE X.K} {As Ks : BA X.K} {p p2 q pos kpos : Pos} {x id : String} {ks : List Str} {nm : Option Str}
structure KA (X : Cx) (kws : List Keyword) (t : TA) : Prop where
  pk : PK X kws t
theorem K_n : KA X [] ((baN : BA X.K).t W) := ⟨pk_nil⟩
theorem K_c (ha : PE X e (A.t W)) (hr : KA X kws (As.t W)) : KA X (⟨nm, e, kpos⟩ :: kws) ((baC A As).t W) := ⟨pk_cons ha hr.pk⟩
theorem P_BK {cb : CBK X.K} {x : Str} (hc : CallRK X (.builtin id) ks cb.r) (hm : X.mg x = none) (hv : bootBuiltins x = some (.builtin id)) (ha : PA X (e :: es) (As.t W)) (hk : KA X kws (Ks.t W)) (hg : Gl X x := by rfl) (hn : x ≠ "__name__" := by decide) (hdb : (x == ("__debug__" : Str)) = false := by decide)
    (he : backTo pos (starEach (e :: es) X.env) = (false, eval e X.env) :: backTo pos (starEach es X.env) := by rfl) (hpl : (backTo pos (starEach (e :: es) X.env)).any (·.1) = false := by rfl)
    (hall : (backToKw pos (keywordEach kws X.env)).all (·.1.isSome) = true := by rfl) (hnone : (backToKw pos (keywordEach kws X.env)).any (·.1.isNone) = false := by rfl) (hks : (backToKw pos (keywordEach kws X.env)).filterMap (·.1) = ks := by rfl) :
    PE X (.Call (.Name x p) (e :: es) kws pos) ((bCBK cb As Ks).t W) := pe_callBK hc hg hm hv ha hk.pk hn hdb he hpl hall hnone hks
end
section
variable {K : Fg} {ρ : En} {ω : Om} {Φ : D → Om → Prop} {Ψ : Exn → Om → Prop} {A : BE K} {As Ks : BA K} {d e : D}
theorem x_cbk {c : CBK K} : (bCBK c As Ks).w ρ ω Φ Ψ = As.w ρ ω (fun xs ω1 => Ks.w ρ ω1 (fun ys ω2 => c.w xs ys ω2 Φ) Ψ) Ψ := rfl
theorem x_maxD : (cMaxD : CBK K).w [d] [e] ω Φ = optW (lstOf ω d) fun us => optW (intsOf us) fun ns => (ns = [] → Φ e ω) ∧ ∀ m, m ∈ ns → (∀ y, y ∈ ns → y ≤ m) → Φ (.int m) ω := rfl
theorem x_sortI : (cSortI false : CB K).w [d] ω Φ = optW (lstOf ω d) fun us => optW (intsOf us) fun ns => ∀ ns' : List Int, ns'.Perm ns → ns'.Pairwise (· ≤ ·) → Φ (.lst (ns'.map .int)) ω := rfl
theorem x_sortIo : (cSortI true : CB K).w [d] ω Φ = optW (lstOf ω d) fun us => optW (intsOf us) fun ns => ∀ ns' : List Int, ns'.Perm ns → ns'.Pairwise (· ≤ ·) → ∀ a, ω a = none → Φ (.ref a) (ω.set a (.lst (ns'.map .int))) := rfl
theorem x_lenSetI : (bLenSetI A).w ρ ω Φ Ψ = A.w ρ ω (fun x ω1 => optW (lstOf ω1 x) fun us => optW (intsOf us) fun ns => NeedW (ns.Nodup ∧ ns.length ≤ 4000) (Φ (.int (ns.length : Nat)) ω1)) Ψ := rfl
end
section
variable {K : Fg} {ρ : En} {ω : Om} {G : BG K} {S : BS K} {k : KD} {d : D} {ds : List D} {T1 : BT K} {A : BE K}
theorem z_fgN {nx bk ct : En → Om → Prop} {rt : D → Om → Prop} {xc : Exn → En → Om → Prop} : forGo (fun _ => True) G S ⟨nx, rt, bk, ct, xc⟩ [] ρ ω = nx ρ ω := cond trivial
theorem z_fgC {nx bk ct : En → Om → Prop} {rt : D → Om → Prop} {xc : Exn → En → Om → Prop} : forGo (fun _ => True) G S ⟨nx, rt, bk, ct, xc⟩ (d :: ds) ρ ω = G.w d ρ ω fun ρ1 ω1 => S.w ρ1 ω1 ⟨forGo (fun _ => True) G S ⟨nx, rt, bk, ct, xc⟩ ds, rt, nx, forGo (fun _ => True) G S ⟨nx, rt, bk, ct, xc⟩ ds, xc⟩ := cond trivial
theorem lc_go {chk : Om → Prop} {F : List D → Om → Prop} (J : Nat → List D → Om → Prop) {ds : List D}
    (hs : ∀ (i : Nat) (d : D) (acc : List D) (ω1 : Om) (N : List D → Om → Prop), ds[i]? = some d → J i acc ω1 → (∀ acc2 ω2, J (i + 1) acc2 ω2 → N acc2 ω2) →
      chk ω1 ∧ G.w d ρ ω1 fun ρ1 ω2 => T1.w ρ1 ω2 (fun b ω3 => if b = true then A.w ρ1 ω3 (fun y ω4 => acc.length < sizeLine ∧ N (acc ++ [y]) ω4) X0 else N acc ω3) X0)
    (he : ∀ acc ω1, J ds.length acc ω1 → chk ω1 ∧ F acc ω1) {acc : List D} (h0 : J 0 acc ω) : lcGo chk G T1 A ρ F ds acc ω := by
  have key : ∀ (m i : Nat) (acc : List D) (ω1 : Om), i + m = ds.length → J i acc ω1 → lcGo chk G T1 A ρ F (ds.drop i) acc ω1 := by
    intro m
    induction m with
    | zero =>
      intro i acc ω1 e h
      have e : i = ds.length := by omega
      subst e
      rw [List.drop_length]
      exact he acc ω1 h
    | succ m ih =>
      intro i acc ω1 e h
      have hi : i < ds.length := by omega
      rw [List.drop_eq_getElem_cons hi]
      exact hs i _ acc ω1 (fun acc2 ω2 => lcGo chk G T1 A ρ F (ds.drop (i + 1)) acc2 ω2) (List.getElem?_eq_getElem hi) h fun acc2 ω2 h2 => ih (i + 1) acc2 ω2 (by omega) h2
  have := key ds.length 0 acc ω (by omega) h0
  simpa using this
theorem lc_mapT {α : Type} {chk : Om → Prop} {F : List D → Om → Prop} {i : Nat} (mk f : α → D) (ns : List α) (hz : ns.length ≤ 16777216) (hc : chk ω) (h : ∀ n ∈ ns, ∀ Q : D → Om → Prop, Q (f n) ω → A.w (ρ.set i (some (mk n))) ω Q X0) (hF : F (ns.map f) ω) : lcGo chk (bgN i : BG K) btYes A ρ F (ns.map mk) [] ω := by
  have key : ∀ (ns : List α) (acc : List D), acc.length + ns.length ≤ 16777216 → (∀ n ∈ ns, ∀ Q : D → Om → Prop, Q (f n) ω → A.w (ρ.set i (some (mk n))) ω Q X0) → F (acc ++ ns.map f) ω → lcGo chk (bgN i : BG K) btYes A ρ F (ns.map mk) acc ω := by
    intro ns
    induction ns with
    | nil => intro acc _ _ hF; exact ⟨hc, by simpa using hF⟩
    | cons n r ih =>
      intro acc hz h hF
      refine ⟨hc, ?_⟩
      show (if true = true then A.w (ρ.set i (some (mk n))) ω (fun y ω3 => acc.length < sizeLine ∧ lcGo chk (bgN i) btYes A ρ F (r.map mk) (acc ++ [y]) ω3) X0 else lcGo chk (bgN i) btYes A ρ F (r.map mk) acc ω)
      rw [if_pos rfl]
      refine h n List.mem_cons_self _ ⟨by rw [sizeLine_eq]; simp at hz; omega, ?_⟩
      exact ih (acc ++ [f n]) (by simp at hz ⊢; omega) (fun m hm => h m (List.mem_cons_of_mem _ hm)) (by simpa using hF)
  exact key ns [] (by simpa using hz) h (by simpa using hF)
theorem joinL1 (S p : List Nat) : TL.joinL S [p] = p := rfl
theorem joinL2 (S p q : List Nat) (r : List (List Nat)) : TL.joinL S (p :: q :: r) = p ++ (S ++ TL.joinL S (q :: r)) := rfl
end
end
section
def dOk (n : Nat) (d : D) : Prop := eqD d = true ∧ dpt d ≤ n
theorem eqDL_of : ∀ {ds : List D}, (∀ d ∈ ds, eqD d = true) → eqDL ds = true
  | [], _ => by simp [eqDL]
  | d :: r, h => by simp [eqDL, h d List.mem_cons_self, eqDL_of fun x hx => h x (List.mem_cons_of_mem _ hx)]
theorem dptL_of {n : Nat} : ∀ {ds : List D}, (∀ d ∈ ds, dpt d ≤ n) → dptL ds ≤ n
  | [], _ => by simp [dptL]
  | d :: r, h => by
    have h1 := h d List.mem_cons_self
    have h2 := dptL_of fun x hx => h x (List.mem_cons_of_mem _ hx)
    simp only [dptL]; omega
theorem dOk_int {n : Nat} {i : Int} : dOk n (.int i) := ⟨rfl, Nat.zero_le _⟩
theorem dOk_non {n : Nat} : dOk n .non := ⟨rfl, Nat.zero_le _⟩
theorem dOk_str {n : Nat} {s : List Nat} (h : s.all (· < 0x110000) = true) : dOk n (.str s) := ⟨h, Nat.zero_le _⟩
theorem dOk_tup {n : Nat} {ds : List D} (h : ∀ d ∈ ds, dOk n d) : dOk (n + 1) (.tup ds) := ⟨by simp only [eqD]; exact eqDL_of fun d hd => (h d hd).1, by simp only [dpt]; have := dptL_of fun d hd => (h d hd).2; omega⟩
theorem dOk_lst {n : Nat} {ds : List D} (h : ∀ d ∈ ds, dOk n d) : dOk (n + 1) (.lst ds) := ⟨by simp only [eqD]; exact eqDL_of fun d hd => (h d hd).1, by simp only [dpt]; have := dptL_of fun d hd => (h d hd).2; omega⟩
mutual
theorem deq_refl : ∀ d : D, eqD d = true → deq d d = true
  | .non, _ => by simp [deq]
  | .bl b, _ => by simp [deq]
  | .int i, _ => by simp [deq]
  | .str s, _ => by simp [deq]
  | .tup ds, h => by simp only [deq]; simp only [eqD] at h; exact deqL_refl ds h
  | .lst ds, h => by simp only [deq]; simp only [eqD] at h; exact deqL_refl ds h
  | .ref _, h => by simp [eqD] at h
  | .scr _, h => by simp [eqD] at h
  | .exn .., h => by simp [eqD] at h
  | .clo .., h => by simp [eqD] at h
theorem deqL_refl : ∀ ds : List D, eqDL ds = true → deqL ds ds = true
  | [], _ => by simp [deqL]
  | d :: r, h => by
    simp only [eqDL, Bool.and_eq_true] at h
    simp [deqL, deq_refl d h.1, deqL_refl r h.2]
end
def Grow (ω ω' : Om) : Prop := ∀ a, ω a ≠ none → ω' a = ω a
theorem Grow.refl (ω : Om) : Grow ω ω := fun _ _ => rfl
theorem Grow.trans {a b c : Om} (h : Grow a b) (g : Grow b c) : Grow a c := fun x hx => by rw [g x (by rw [h x hx]; exact hx), h x hx]
theorem Grow.set {ω : Om} {a : Addr} {c : Cell} (h : ω a = none) : Grow ω (ω.set a c) := fun x hx => Om.set_ne (fun e => hx (by rw [e]; exact h))
theorem Grow.put {ω ω' : Om} {a : Addr} {c : Cell} (g : Grow ω ω') (h : ω a = none) : Grow ω (ω'.set a c) := fun x hx => by rw [Om.set_ne (fun e => hx (by rw [e]; exact h))]; exact g x hx
theorem Grow.del {ω ω' : Om} {a : Addr} (g : Grow ω ω') (h : ω a = none) : Grow ω (ω'.del a) := fun x hx => by
  show (if x = a then none else ω' x) = ω x
  rw [if_neg (fun e => hx (by rw [e]; exact h))]; exact g x hx
theorem Grow.at {ω ω' : Om} {a : Addr} {c : Cell} (g : Grow ω ω') (h : ω a = some c) : ω' a = some c := by rw [g a (by rw [h]; simp)]; exact h
theorem Grow.free {ω ω' : Om} {a : Addr} (g : Grow ω ω') (h : ω' a = none) : ω a = none := by
  cases e : ω a with
  | none => rfl
  | some c => rw [g.at e] at h; cases h
theorem strI_free {i : Int} {s : Nat} (h0 : 0 ≤ i) (h : s < 48 ∨ 57 < s) : s ∉ strI i := by
  rw [strI_nn h0]; exact TL.numL_free h
theorem strI_lenB {i : Int} {k : Nat} (hk : 0 < k) (h0 : 0 ≤ i) (h : i < ((10 ^ k : Nat) : Int)) : (strI i).length ≤ k := by
  rw [strI_nn h0]
  exact TL.numL_len hk (by omega)
theorem strI_lt {i : Int} (h0 : 0 ≤ i) (h : i ≤ 9999999999) : (strI i).length ≤ 10 := strI_lenB (by omega) h0 (by show i < ((10 ^ 10 : Nat) : Int); omega)
theorem strI_head {i : Int} (h0 : 0 ≤ i) : (strI i).head? ≠ some 43 ∧ (strI i).head? ≠ some 45 := by
  constructor <;> intro e
  · exact strI_free (s := 43) h0 (by omega) (List.mem_of_head? e)
  · exact strI_free (s := 45) h0 (by omega) (List.mem_of_head? e)
theorem logI_ok {i : Int} (h0 : 0 ≤ i) (h : i ≤ 9999999999) : i.natAbs.log2 < 1920 := by
  have : i.natAbs < 2 ^ 40 := by omega
  by_cases c : i.natAbs = 0
  · rw [c]; decide
  · have := (Nat.log2_lt (n := i.natAbs) (k := 40) c).mpr ‹_›
    omega
theorem at_map {α : Type} {f : α → D} {L : List α} {p : Nat} {x : α} (h : L[p]? = some x) : atI (L.map f) (p : Nat) = some (f x) := by
  rw [atI_map, atI_nn (by omega), Int.toNat_natCast, h]; rfl
theorem opt_pick {α : Type} {l : List α} {i : Int} {F : α → Prop} (h0 : 0 ≤ i) (h1 : i < (l.length : Nat)) (h : ∀ x ∈ l, F x) : optW (atI l i) F := by
  obtain ⟨k, rfl⟩ := Int.eq_ofNat_of_zero_le h0
  have hk : k < l.length := by omega
  rw [atI_nn (by omega), Int.toNat_natCast, List.getElem?_eq_getElem hk]
  exact h _ (List.getElem_mem hk)
theorem opt_rest {α : Type} {l : List α} {x m : Int} {F : α → Prop} (hm : 0 < m) (h1 : m ≤ (l.length : Nat)) (h : ∀ x ∈ l, F x) : optW (atI l (x % m)) F := opt_pick (Int.emod_nonneg _ (by omega)) (by have := Int.emod_lt_of_pos x hm; omega) h
theorem any_eqF {m : Int} : ∀ {us : List Int}, ((us.map D.int).any fun e => eqF e (.int m)) = decide (m ∈ us)
  | [] => by simp
  | u :: r => by
    rw [List.map_cons, List.any_cons, any_eqF (us := r)]
    have e : eqF (.int u) (.int m) = (u == m) := rfl
    rw [e, Bool.eq_iff_iff, Bool.or_eq_true, beq_iff_eq, decide_eq_true_iff, decide_eq_true_iff, List.mem_cons]
    constructor
    · rintro (h | h)
      · exact .inl h.symm
      · exact .inr h
    · rintro (h | h)
      · exact .inl h.symm
      · exact .inr h
section
variable {K : Fg} {ω : Om} {Φ : D → Om → Prop}
theorem flat_ints (us : List Int) : (us.map D.int).all flatD = true := by rw [List.all_map]; exact List.all_eq_true.mpr fun _ _ => rfl
theorem x_ninR {m : Int} {a : Addr} {us : List Int} (h : ω a = some (.lst (us.map .int))) : (oIn true : O2 K).w (.int m) (.ref a) ω Φ = Φ (.bl (!decide (m ∈ us))) ω := by
  refine propext ⟨?_, fun z => ⟨_, lstOf_ref.mpr h, rfl, flat_ints us, by rw [any_eqF]; exact z⟩⟩
  rintro ⟨ds, e, _, _, z⟩
  rw [lstOf_ref.mpr h] at e; cases e
  rw [any_eqF] at z; exact z
theorem x_inR {m : Int} {a : Addr} {us : List Int} (h : ω a = some (.lst (us.map .int))) : (oIn false : O2 K).w (.int m) (.ref a) ω Φ = Φ (.bl (decide (m ∈ us))) ω := by
  refine propext ⟨?_, fun z => ⟨_, lstOf_ref.mpr h, rfl, flat_ints us, by rw [any_eqF]; exact z⟩⟩
  rintro ⟨ds, e, _, _, z⟩
  rw [lstOf_ref.mpr h] at e; cases e
  rw [any_eqF] at z; exact z
end
theorem mapM_py {n : Nat} {ω : Om} : ∀ {ds : List D}, eqDL ds = true → ds.mapM (pyF (n + 1) ω) = some (toPyL ds)
  | [], _ => by simp [toPyL]
  | d :: r, h => by
    simp only [eqDL, Bool.and_eq_true] at h
    have e1 : pyF (n + 1) ω d = some (toPy d) := toPy_w _ d h.1
    have e2 := mapM_py (n := n) (ω := ω) h.2
    rw [List.mapM_cons, e1, e2]
    simp [toPyL]
theorem eqDW_ref {ω : Om} {a : Addr} {ds : List D} {e : D} {neg : Bool} {Φ : D → Om → Prop} (h : ω a = some (.lst ds)) (g : eqOk (.lst ds) = true) (ge : eqOk e = true) : eqDW neg (.ref a) e ω Φ = Φ (.bl (if neg then !deq (.lst ds) e else deq (.lst ds) e)) ω := by
  obtain ⟨b1, b2⟩ := eqOk_py ge ω
  obtain ⟨_, a2⟩ := eqOk_py g ω
  have g1 := g; have h1 := ge
  unfold eqOk at g1 h1
  rw [Bool.and_eq_true] at g1 h1
  have e1 := toPy_e _ e g1.1 h1.1
  have a1 : pyF 3 ω (.ref a) = some (toPy (.lst ds)) := by
    show (match ω a with | some (.lst ds) => (ds.mapM (pyF 2 ω)).map PyData.list | _ => none) = _
    rw [h]
    have := g1.1
    simp only [eqD] at this
    show (ds.mapM (pyF 2 ω)).map PyData.list = _
    rw [mapM_py this]
    simp [toPy]
  refine propext ⟨?_, fun z => ⟨_, _, a1, b1, a2, b2, by rw [e1]; exact z⟩⟩
  rintro ⟨p, q, c1, c2, _, _, z⟩
  rw [a1] at c1; rw [b1] at c2; cases c1; cases c2
  rw [e1] at z; exact z
section
variable {K : Fg} {ω : Om} {Φ : D → Om → Prop}
theorem x_eqRL {a : Addr} {ds : List D} {e : D} (h : ω a = some (.lst ds)) (g : eqOk (.lst ds) = true) (ge : eqOk e = true) : (oEq : O2 K).w (.ref a) e ω Φ = Φ (.bl (deq (.lst ds) e)) ω := by
  have := eqDW_ref (neg := false) (Φ := Φ) h g ge
  rw [if_neg Bool.false_ne_true] at this
  rw [← this]
  cases e <;> rfl
theorem x_neRL {a : Addr} {ds : List D} {e : D} (h : ω a = some (.lst ds)) (g : eqOk (.lst ds) = true) (ge : eqOk e = true) : (oNe : O2 K).w (.ref a) e ω Φ = Φ (.bl (!deq (.lst ds) e)) ω := by
  have := eqDW_ref (neg := true) (Φ := Φ) h g ge
  rw [if_pos rfl] at this
  rw [← this]
  cases e <;> rfl
end
mutual
inductive Rs (ω : Om) : Nat → D → D → Prop
  | base {n : Nat} {d : D} : eqD d = true → Rs ω n d d
  | ref {n : Nat} {a : Addr} {ds es : List D} : ω a = some (.lst ds) → RsL ω n ds es → Rs ω (n + 1) (.ref a) (.lst es)
  | tup {n : Nat} {ds es : List D} : RsL ω n ds es → Rs ω n (.tup ds) (.tup es)
  | lst {n : Nat} {ds es : List D} : RsL ω n ds es → Rs ω n (.lst ds) (.lst es)
inductive RsL (ω : Om) : Nat → List D → List D → Prop
  | nil {n : Nat} : RsL ω n [] []
  | cons {n : Nat} {d e : D} {ds es : List D} : Rs ω n d e → RsL ω n ds es → RsL ω n (d :: ds) (e :: es)
end
theorem pyF_eq (n : Nat) (ω : Om) : ∃ g, pyF n ω = pyW g := by cases n <;> exact ⟨_, rfl⟩
theorem mapM_pyW (g : Addr → Option PyData) : ∀ ds : List D, ds.mapM (pyW g) = pyWL g ds
  | [] => by simp [pyWL]
  | d :: r => by
    rw [List.mapM_cons, mapM_pyW g r]
    simp only [pyWL]
    cases pyW g d <;> cases pyWL g r <;> rfl
mutual
theorem rs_py {ω : Om} : ∀ {n : Nat} {d e : D}, Rs ω n d e → pyF n ω d = some (toPy e) ∧ eqD e = true
  | n, _, _, .base h => by
    obtain ⟨g, hg⟩ := pyF_eq n ω
    rw [hg]
    exact ⟨toPy_w g _ h, h⟩
  | _, _, _, .ref (n := n) (a := a) (ds := ds) (es := es) h r => by
    obtain ⟨h1, h2⟩ := rsL_py r
    refine ⟨?_, by simp only [eqD]; exact h2⟩
    show (match ω a with | some (.lst ds) => (ds.mapM (pyF n ω)).map PyData.list | _ => none) = _
    rw [h]
    show (ds.mapM (pyF n ω)).map PyData.list = _
    obtain ⟨g, hg⟩ := pyF_eq n ω
    rw [hg, mapM_pyW, h1 g hg]
    simp [toPy]
  | n, _, _, .tup (ds := ds) (es := es) r => by
    obtain ⟨h1, h2⟩ := rsL_py r
    obtain ⟨g, hg⟩ := pyF_eq n ω
    refine ⟨?_, by simp only [eqD]; exact h2⟩
    rw [hg]
    simp only [pyW, h1 g hg, toPy, Option.map_some]
  | n, _, _, .lst (ds := ds) (es := es) r => by
    obtain ⟨h1, h2⟩ := rsL_py r
    obtain ⟨g, hg⟩ := pyF_eq n ω
    refine ⟨?_, by simp only [eqD]; exact h2⟩
    rw [hg]
    simp only [pyW, h1 g hg, toPy, Option.map_some]
theorem rsL_py {ω : Om} : ∀ {n : Nat} {ds es : List D}, RsL ω n ds es → (∀ g, pyF n ω = pyW g → pyWL g ds = some (toPyL es)) ∧ eqDL es = true
  | n, _, _, .nil => ⟨fun g _ => by simp [pyWL, toPyL], by simp [eqDL]⟩
  | n, _, _, .cons (d := d) (e := e) (ds := ds) (es := es) h r => by
    obtain ⟨h1, h2⟩ := rs_py h
    obtain ⟨h3, h4⟩ := rsL_py r
    refine ⟨fun g hg => ?_, by simp only [eqDL, h2, h4]; rfl⟩
    rw [hg] at h1
    simp only [pyWL, h1, h3 g hg, toPyL]
end
theorem eqDW_Rs {ω : Om} {d e d' e' : D} {neg : Bool} {Φ : D → Om → Prop} (h : Rs ω 3 d d') (g : Rs ω 3 e e') (hd : dpt d' ≤ 64) (ge : dpt e' ≤ 64) : eqDW neg d e ω Φ = Φ (.bl (if neg then !deq d' e' else deq d' e')) ω := by
  obtain ⟨a1, a2⟩ := rs_py h
  obtain ⟨b1, b2⟩ := rs_py g
  have e1 := toPy_e _ _ a2 b2
  have o1 : eqOk d' = true := by unfold eqOk; rw [a2, decide_eq_true hd]; rfl
  have o2 : eqOk e' = true := by unfold eqOk; rw [b2, decide_eq_true ge]; rfl
  have s1 := (eqOk_py o1 ω).2
  have s2 := (eqOk_py o2 ω).2
  refine propext ⟨?_, fun z => ⟨_, _, a1, b1, s1, s2, by rw [e1]; exact z⟩⟩
  rintro ⟨p, q, c1, c2, _, _, z⟩
  rw [a1] at c1; rw [b1] at c2; cases c1; cases c2
  rw [e1] at z; exact z
section
variable {K : Fg}
def bgSub (a b : BE K) : BG K where
  t := gSub (a.t W0) (b.t W0) rSetL
  w := fun d ρ ω Φ => a.w ρ ω (fun x ω1 => b.w ρ ω1 (fun y ω2 => match x, y with
    | .ref p, .int i => cL (ω2 p) fun ds => optW (ixN ds.length i) fun j => Φ ρ (ω2.set p (.lst (ds.set j d)))
    | _, _ => False) X0) X0
  ok := fun d v ρ z σ Q Φ h k r hv q => by
    refine a.ok W0 ρ z σ _ _ X0 h k r (fun x z1 d1 t1 r1 h1 => ?_) fun _ _ _ _ _ _ w => w.elim
    refine b.ok W0 ρ z1 σ _ _ X0 h1 t1.ok (r.mono t1.ex) (fun y z2 d2 t2 r2 h2 => ?_) fun _ _ _ _ _ _ w => w.elim
    split at h2
    · cases r1; cases r2
      obtain ⟨ds, hc, h2⟩ := cL_iff.mp h2
      obtain ⟨j, hj, h3⟩ := optW_iff.mp h2
      obtain ⟨_, xs, g1, g2⟩ := t2.ok.cell _ _ hc
      have t12 := t1.trans t2
      have t := t2.ok.put (o := .lst (xs.set j v)) (c' := .lst (ds.set j d)) hc ⟨_, upd_same, g2.set (hv.mono t12.ex) j⟩
      exact ⟨_, xs, _, j, rfl, rfl, g1, by rw [g2.length]; exact hj, q _ _ _ (t12.trans t) (r.mono (t12.trans t).ex) h3⟩
    · exact h2.elim
def gsW (x y d : D) (ρ : En) (ω : Om) (Φ : En → Om → Prop) : Prop := match x, y with
  | .ref p, .int i => cL (ω p) fun ds => optW (ixN ds.length i) fun j => Φ ρ (ω.set p (.lst (ds.set j d)))
  | _, _ => False
theorem x_gSub {A B : BE K} {d : D} {ρ : En} {ω : Om} {F : En → Om → Prop} : (bgSub A B).w d ρ ω F = A.w ρ ω (fun x ω1 => B.w ρ ω1 (fun y ω2 => gsW x y d ρ ω2 F) X0) X0 := rfl
theorem x_gsW {p : Addr} {i : Int} {d : D} {ρ : En} {ω : Om} {F : En → Om → Prop} : gsW (.ref p) (.int i) d ρ ω F = cL (ω p) fun ds => optW (ixN ds.length i) fun j => F ρ (ω.set p (.lst (ds.set j d))) := rfl
end
end
end T
namespace T
open PySem
section
theorem Runs.one {M : Model} {Γ : Ctx} {p : Pos} {t : Sem Fin} {fs : List Frame} {s s' : Shared} {e : End} (h : Runs M Γ p t fs s e s') : ∀ {e2 : End} {s2 : Shared}, Runs M Γ p t fs s e2 s2 → e = e2 ∧ s' = s2 := by
  induction h with
  | done => intro e2 s2 g; cases g; exact ⟨rfl, rfl⟩
  | raise => intro e2 s2 g; cases g; exact ⟨rfl, rfl⟩
  | again q _ ih => intro e2 s2 g; cases g with | again _ g => exact ih g
  | rule _ ih => intro e2 s2 g; cases g with | rule g => exact ih g
  | «at» _ ih => intro e2 s2 g; cases g with | «at» g => exact ih g
  | load h1 _ ih => intro e2 s2 g; cases g with | load h2 g => rw [h1] at h2; cases h2; exact ih g
  | update _ _ ih => intro e2 s2 g; cases g with | update _ g => exact ih g
  | loadIfAlive _ ih => intro e2 s2 g; cases g with | loadIfAlive g => exact ih g
  | point _ ih => intro e2 s2 g; cases g with | point g => exact ih g
  | alloc _ ih => intro e2 s2 g; cases g with | alloc g => exact ih g
  | fresh _ ih => intro e2 s2 g; cases g with | fresh g => exact ih g
  | ask _ ih => intro e2 s2 g; cases g with | ask g => exact ih g
  | choose _ _ ih => intro e2 s2 g; cases g with | choose _ g => exact ih g
  | os _ ih => intro e2 s2 g; cases g with | os g => exact ih g
  | handled _ ih => intro e2 s2 g; cases g with | handled g => exact ih g
  | genState h1 _ ih => intro e2 s2 g; cases g with | genState h2 g => rw [h1] at h2; cases h2; exact ih g
  | stack _ ih => intro e2 s2 g; cases g with | stack g => exact ih g
  | thread _ ih => intro e2 s2 g; cases g with | thread g => exact ih g
  | newGen _ ih => intro e2 s2 g; cases g with | newGen g => exact ih g
  | call _ _ i1 i2 =>
    intro e2 s2 g
    cases g with
    | call g1 g2 => obtain ⟨a, b⟩ := i1 g1; cases a; subst b; exact i2 g2
    | callSusp g1 => obtain ⟨a, _⟩ := i1 g1; cases a
  | callSusp _ i1 =>
    intro e2 s2 g
    cases g with
    | call g1 g2 => obtain ⟨a, _⟩ := i1 g1; cases a
    | callSusp g1 => obtain ⟨a, b⟩ := i1 g1; cases a; exact ⟨rfl, b⟩
  | yield => intro e2 s2 g; cases g; exact ⟨rfl, rfl⟩
  | resumeFresh h1 _ _ _ i1 i2 =>
    intro e2 s2 g
    cases g with
    | resumeFresh h2 g1 _ g2 => rw [h1] at h2; cases h2; obtain ⟨a, b⟩ := i1 g1; subst a; subst b; exact i2 g2
    | resumeSuspended h2 => rw [h1] at h2; cases h2
    | resumeJustStarted _ n => exact absurd rfl n
    | resumeRunning h2 => rw [h1] at h2; cases h2
    | resumeFinished h2 => rw [h1] at h2; cases h2
  | resumeSuspended h1 _ _ _ i1 i2 =>
    intro e2 s2 g
    cases g with
    | resumeFresh h2 => rw [h1] at h2; cases h2
    | resumeSuspended h2 g1 _ g2 => rw [h1] at h2; cases h2; obtain ⟨a, b⟩ := i1 g1; subst a; subst b; exact i2 g2
    | resumeJustStarted h2 => rw [h1] at h2; cases h2
    | resumeThrowFresh h2 => rw [h1] at h2; cases h2
    | resumeRunning h2 => rw [h1] at h2; cases h2
    | resumeFinished h2 => rw [h1] at h2; cases h2
  | resumeJustStarted h1 n _ ih =>
    intro e2 s2 g
    cases g with
    | resumeFresh => exact absurd rfl n
    | resumeSuspended h2 => rw [h1] at h2; cases h2
    | resumeJustStarted _ _ g => exact ih g
    | resumeRunning h2 => rw [h1] at h2; cases h2
    | resumeFinished h2 => rw [h1] at h2; cases h2
  | resumeThrowFresh h1 _ ih =>
    intro e2 s2 g
    cases g with
    | resumeSuspended h2 => rw [h1] at h2; cases h2
    | resumeThrowFresh _ g => exact ih g
    | resumeRunning h2 => rw [h1] at h2; cases h2
    | resumeFinished h2 => rw [h1] at h2; cases h2
  | resumeRunning h1 _ ih =>
    intro e2 s2 g
    cases g with
    | resumeRunning _ g => exact ih g
    | resumeFresh h2 => rw [h1] at h2; cases h2
    | resumeSuspended h2 => rw [h1] at h2; cases h2
    | resumeJustStarted h2 => rw [h1] at h2; cases h2
    | resumeThrowFresh h2 => rw [h1] at h2; cases h2
    | resumeFinished h2 => rw [h1] at h2; cases h2
  | resumeFinished h1 _ ih =>
    intro e2 s2 g
    cases g with
    | resumeFinished _ g => exact ih g
    | resumeFresh h2 => rw [h1] at h2; cases h2
    | resumeSuspended h2 => rw [h1] at h2; cases h2
    | resumeJustStarted h2 => rw [h1] at h2; cases h2
    | resumeThrowFresh h2 => rw [h1] at h2; cases h2
    | resumeRunning h2 => rw [h1] at h2; cases h2
  | segRet _ _ i1 i2 =>
    intro e2 s2 g
    cases g with
    | segRet g1 g2 => obtain ⟨a, b⟩ := i1 g1; cases a; subst b; exact i2 g2
    | segSuspOut _ g1 => obtain ⟨a, _⟩ := i1 g1; cases a
    | segSuspGen _ g1 => obtain ⟨a, _⟩ := i1 g1; cases a
  | segGen _ _ i1 i2 =>
    intro e2 s2 g
    cases g with
    | segGen g1 g2 => obtain ⟨a, b⟩ := i1 g1; cases a; subst b; exact i2 g2
    | segSuspOut _ g1 => obtain ⟨a, _⟩ := i1 g1; cases a
    | segSuspGen _ g1 => obtain ⟨a, _⟩ := i1 g1; cases a
  | segSuspOut h1 _ i1 =>
    intro e2 s2 g
    cases g with
    | segRet g1 => obtain ⟨a, _⟩ := i1 g1; cases a
    | segGen g1 => obtain ⟨a, _⟩ := i1 g1; cases a
    | segSuspOut _ g1 => obtain ⟨a, b⟩ := i1 g1; cases a; exact ⟨rfl, b⟩
    | segSuspGen h2 => rw [h1] at h2; cases h2
  | segSuspGen h1 _ _ _ i1 i2 =>
    intro e2 s2 g
    cases g with
    | segRet g1 => obtain ⟨a, _⟩ := i1 g1; cases a
    | segGen g1 => obtain ⟨a, _⟩ := i1 g1; cases a
    | segSuspOut h2 => rw [h1] at h2; cases h2
    | segSuspGen h2 g1 _ g2 => rw [h1] at h2; cases h2; obtain ⟨a, b⟩ := i1 g1; cases a; subst b; exact i2 g2
theorem Wakes.one {M : Model} {Γ : Ctx} {p : Pos} {g : Nat} {r : Resume} {s s1 s2 : Shared} {a b : GenResult} (h : Wakes M Γ p g r s a s1) (k : Wakes M Γ p g r s b s2) : a = b ∧ s1 = s2 := by
  unfold Wakes at h k
  have woke : ∀ {c : Ctx} {q : Pos} {u : Sem Fin} {fs : List Frame}, (∃ e1 t1, Runs M c q u fs (s.setGen g .running) e1 t1 ∧ e1.quiet = true ∧ a = e1.result ∧ s1 = t1.setGen g e1.genState) →
      (∃ e1 t1, Runs M c q u fs (s.setGen g .running) e1 t1 ∧ e1.quiet = true ∧ b = e1.result ∧ s2 = t1.setGen g e1.genState) → a = b ∧ s1 = s2 := by
    rintro c q u fs ⟨e1, t1, h1, _, rfl, rfl⟩ ⟨e2, t2, h2, _, rfl, rfl⟩
    obtain ⟨x, y⟩ := Runs.one h1 h2
    subst x; subst y; exact ⟨rfl, rfl⟩
  have said : ∀ {r : GenResult} {t : Shared}, (a = r ∧ s1 = t) → (b = r ∧ s2 = t) → a = b ∧ s1 = s2 := by
    rintro r t ⟨rfl, rfl⟩ ⟨rfl, rfl⟩
    exact ⟨rfl, rfl⟩
  cases e : s.gens[g]? with
  | none => rw [e] at h; exact h.elim
  | some x =>
    rw [e] at h k
    cases x with
    | fresh c =>
      cases r with
      | send v => cases v <;> first | exact said h k | exact woke h k
      | throw x => exact said h k
    | suspended => exact woke h k
    | running => exact said h k
    | finished => exact said h k
end
end T
namespace T
open PySem PySem.Spec PyProof.Rows L2 LamX NdefX
section
def LamO (f : Addr) (F : NF) (b : Expr) : HO := .ext fun h => ∃ (od : Option Addr) (sl : Array (Option Value)) (pm ctv : Value), h.get? f = some (⟨.type "function", od, .func (PySem.W.kla_fn F.name F.qual F.params b F.scope F.cl pm (.ref F.c) ctv), sl⟩ : Obj)
theorem lamO_nt {f : Addr} {F : NF} {b : Expr} : NT (LamO f F b) := fun ps z => by unfold LamO at z; cases z
theorem codeO_nt {c : Addr} {q : Str} : NT (CodeO c q) := fun ps z => by unfold CodeO at z; cases z
theorem lamO_at {P : Program} {w : World} {H : Hp} {h : Heap} {f : Addr} {F : NF} {b : Expr} (hok : HOk P w H h) (e : H f = some (LamO f F b)) :
    ∃ (od : Option Addr) (sl : Array (Option Value)) (pm ctv : Value), h.get? f = some (⟨.type "function", od, .func (PySem.W.kla_fn F.name F.qual F.params b F.scope F.cl pm (.ref F.c) ctv), sl⟩ : Obj) := by
  obtain ⟨z, _, _⟩ := hok f _ e
  exact z
section
variable {X : Cx} {pins : List (Addr × Obj)} {σ : L2.St} {H : Hp} {s : Shared}
theorem inv_lam {F : NF} {b : Expr} {o : Obj} {t' : Nat} {pm ctv : Value} (I : Inv X pins σ H s) (ho : o = { cls := .type "function", data := .func (PySem.W.kla_fn F.name F.qual F.params b F.scope F.cl pm (.ref F.c) ctv) }) :
    Inv X pins σ (upd H s.heap.objs.size (LamO s.heap.objs.size F b)) { s with heap := s.heap.push o, toks := t' } := by
  subst ho
  refine I.laid (a := s.heap.objs.size) (fun b u e => Heap.get?_push_of_some _ e) (Nat.le_refl _) ?_
  have e : (s.heap.push ({ cls := .type "function", data := .func (PySem.W.kla_fn F.name F.qual F.params b F.scope F.cl pm (.ref F.c) ctv) } : Obj)).get? s.heap.objs.size = some ({ cls := .type "function", data := .func (PySem.W.kla_fn F.name F.qual F.params b F.scope F.cl pm (.ref F.c) ctv) } : Obj) := Heap.get?_push_size _ rfl
  exact ⟨⟨_, _, pm, ctv, e⟩, ⟨_, e⟩, fun h1 h2 ⟨od, sl, p, t, z⟩ st => ⟨od, sl, p, t, st _ z⟩⟩
abbrev lamNF (X : Cx) (params : Arguments) (scope : Scope) (c' : Addr) : NF := ⟨"<lambda>", X.env.qual ++ "<lambda>", params, [], scope, cloFrom X.env.cells scope.names [], c'⟩
theorem tabs_more {T : List NTab} {nm : Nat → Nat → Str} {P c' : Addr} {ps : Array Value} {pos : Pos} {q : Str} (hT : TabsN T H) (hP : H P = some (.tbl ps)) (nC : H c' = none) (hm : (P, nm) ∈ T) (hu : ∀ x ∈ T, x.1 = P → x.2 = nm) (hq : nm pos.line pos.col = q) :
    (∀ b o, H b = some o → NT o → upd (upd H P (.tbl (ps ++ #[rawInt pos.line, rawInt pos.col, .ref c']))) c' (CodeO c' q) b = some o) ∧ TabsN T (upd (upd H P (.tbl (ps ++ #[rawInt pos.line, rawInt pos.col, .ref c']))) c' (CodeO c' q)) := by
  have stay : ∀ b o, H b = some o → NT o → upd (upd H P (.tbl (ps ++ #[rawInt pos.line, rawInt pos.col, .ref c']))) c' (CodeO c' q) b = some o := by
    intro b o hb nt
    have b1 : b ≠ c' := ne_of_none hb nC
    have b2 : b ≠ P := by
      rintro rfl
      rw [hP] at hb
      exact nt ps (Option.some.inj hb).symm
    rw [upd_ne b1, upd_ne b2, hb]
  refine ⟨stay, ?_⟩
  rintro ⟨R, rn⟩ hR
  obtain ⟨qs, k1, k2, k3⟩ := hT (R, rn) hR
  have old : ∀ {p' : Pos} {cv : Value}, codeAmong p' qs.toList = some cv → ∃ d, cv = .ref d ∧ upd (upd H P (.tbl (ps ++ #[rawInt pos.line, rawInt pos.col, .ref c']))) c' (CodeO c' q) d = some (CodeO d (rn p'.line p'.col)) := fun {p' cv} e => by
    obtain ⟨d, e1, e2⟩ := k3 p' cv e
    exact ⟨d, e1, stay d _ e2 codeO_nt⟩
  by_cases hRP : R = P
  · subst hRP
    have en : rn = nm := hu _ hR rfl
    subst en
    have eq : qs = ps := by
      have k1 : H R = some (.tbl qs) := k1
      rw [hP] at k1
      cases k1; rfl
    subst eq
    have el : (qs ++ #[rawInt pos.line, rawInt pos.col, .ref c']).toList = qs.toList ++ [rawInt pos.line, rawInt pos.col, .ref c'] := by simp
    refine ⟨_, (upd_ne (ne_of_none hP nC)).trans upd_same, ?_, ?_⟩
    · rw [el]; exact PySem.TriplesOk_snoc _ _ _ _ k2
    · intro p' cv e
      rw [el] at e
      rcases among_app2 _ k2 e with e | ⟨rfl, l1, l2⟩
      · exact old e
      · refine ⟨c', rfl, ?_⟩
        show upd _ c' _ c' = some (CodeO c' (rn p'.line p'.col))
        rw [upd_same, ← l1, ← l2, hq]
  · exact ⟨qs, (upd_ne (ne_of_none k1 nC)).trans ((upd_ne hRP).trans k1), k2, fun p' cv e => old e⟩
def tLamV (T : List NTab) (mk : Addr → NF) (b : Expr) : TE := fun _ H Q => TabsN T H ∧ ∀ (f c' : Addr) (H1 : Hp), (∀ b o, H b = some o → NT o → H1 b = some o) → (∀ b, H b ≠ none → H1 b ≠ none) → TabsN T H1 → H f = none → H1 f = some (LamO f (mk c') b) → H1 c' = some (CodeO c' (mk c').qual) → Q (.ref f) H1
end
theorem pe_lamV {X : Cx} {params : Arguments} {body : Expr} {scope : Scope} {pos : Pos} (lc : LamC X "<lambda>") (hdef : defaultsOf params X.env = ([], [])) (hfree : ∀ y ∈ scope.names, y.2 = .free → X.env.scope.names.lookup y.1 = some .cell ∨ X.env.scope.names.lookup y.1 = some .free) :
    PE X (.Lambda params body scope pos) (tLamV (tabsN X.K) (lamNF X params scope) body) := by
  obtain ⟨c, P, hc, hin, TB, uni⟩ := lc
  refine ⟨fun pins s σ H Q I ⟨hT, h⟩ => PySem.W.kla_eval hdef ?_⟩
  have fr : ∀ y ∈ scope.names, y.2 = .free → ∃ c, X.env.cells.lookup y.1 = some c := fun y hy e => by
    rcases hfree y hy e with z | z
    · exact I.ok.has _ (.inl z)
    · exact I.ok.has _ (.inr z)
  have hin' : (P, fun _ _ => X.env.qual ++ "<lambda>") ∈ tabsN X.K := List.mem_map.mpr ⟨_, hin, rfl⟩
  have uni' : ∀ x ∈ tabsN X.K, x.1 = P → x.2 = fun _ _ => X.env.qual ++ "<lambda>" := fun x hx e => by
    obtain ⟨y, hy, rfl⟩ := List.mem_map.mp hx
    show (fun _ _ => y.2) = _
    rw [uni y hy e]
  obtain ⟨ps, hP, tri, _⟩ := id (hT _ hin')
  have atP := I.hok P _ hP
  have bi := TB.bm.keeps I.bk
  have hd := TB.code.keeps I.bk
  have G := I.mod.glob.keeps I.bk
  -- behind the making of the object, its code object at c'
  have last : ∀ (c' : Addr) (H1 : Hp) (g : Heap) (ctv : Value) (tk : Nat), Inv X pins σ H1 { s with heap := g, toks := tk } → (∀ b o, H b = some o → NT o → H1 b = some o) → (∀ b, H b ≠ none → H1 b ≠ none) → TabsN (tabsN X.K) H1 → H1 c' = some (CodeO c' (X.env.qual ++ "<lambda>")) →
      EP X pins σ Q (.ref g.objs.size) { s with heap := g.push (PySem.W.kla_obj "<lambda>" (X.env.qual ++ "<lambda>") params body scope (cloFrom X.env.cells scope.names []) ((X.mg "__name__").getD .none) c' ctv), toks := tk } := by
    intro c' H1 g ctv tk J k1 k2 k3 k4
    have nf := J.hok.fresh (Nat.le_refl _)
    have nf0 : H g.objs.size = none := by
      cases e : H g.objs.size with
      | none => rfl
      | some o => exact absurd nf (k2 _ (by rw [e]; simp))
    refine ⟨.ref g.objs.size, _, inv_lam (F := lamNF X params scope c') (b := body) (pm := (X.mg "__name__").getD .none) (ctv := ctv) J rfl, rfl, h _ c' _ (fun b o e nt => ?_) (fun b e => ?_) (k3.ext fun b o e => ?_) nf0 upd_same ?_⟩
    · have e1 := k1 b o e nt
      exact (upd_ne (ne_of_none e1 nf)).trans e1
    · exact upd_kept b (k2 b e)
    · exact (upd_ne (ne_of_none e nf)).trans e
    · exact (upd_ne (ne_of_none k4 nf)).trans k4
  cases q : codeAmong pos ps.toList with
  | some cv =>
    obtain ⟨c', rfl, e2⟩ := (show ∃ c', cv = .ref c' ∧ H c' = some (CodeO c' (X.env.qual ++ "<lambda>")) from by
      obtain ⟨ps2, a1, _, a3⟩ := id (hT _ hin')
      rw [hP] at a1; cases a1
      exact a3 pos cv q)
    exact PySem.W.kla_makeFunctionHit (closure_ok fr) I.ok.glob G hc hd atP tri q bi fun ctv g tk old _ => last c' H g ctv tk (I.kept old) (fun _ _ e _ => e) (fun _ e => e) hT e2
  | none =>
    refine PySem.W.kla_makeFunction (closure_ok fr) I.ok.glob G hc hd atP tri q TB.gP bi fun c' ctv g tk old ge lt rec tab => ?_
    obtain ⟨c2, oc, vs, t, e2, r1, r2, r3⟩ := rec
    cases e2
    have nC := I.hok.fresh ge
    obtain ⟨m1, m2⟩ := tabs_more (pos := pos) hT hP nC hin' uni' rfl
    refine last c' _ g ctv tk (inv_table (t' := tk) I hP (fun b o hb e => old b o hb e) tab ge ⟨oc, vs, t, r1, r2, r3⟩) m1 (fun b e => ?_) m2 upd_same
    exact upd_kept b (upd_kept b e)
section
variable {P : Program} {w : World} {K : PySem.W.Frag} {mg : Str → Option Value} {base : Heap} {N fr : List Str} {p : Str} {F : NF} {b : Expr} {f : Addr} {k : Nat} {A : Around} {outer : List Env} {s : Shared} {H : Hp} {u : Value} {v : V} {ws : List (Option V)} {Q : VK} {tb : TE}
theorem lam_run {E : Value → Shared → Prop} (S : NScope N [p] fr F.scope) (hbind : ∀ (pm ctv u : Value), bindArgs (PySem.W.kla_fn F.name F.qual F.params b F.scope F.cl pm (.ref F.c) ctv) ⟨[u], []⟩ = pure [(p, u)])
    (hr : Room (k + 1) A) (e0 : Env0 P w K mg base A outer s H) (hf : H f = some (LamO f F b)) (hc : H F.c = some (CodeO F.c F.qual)) (C : CellsAt F.cl fr ws s.heap H) (r : RelV v u)
    (hbody : Room k (A.deeper (envF F f s.heap.objs.size)) → PE (ncx CX0 P w K mg base N F f A outer s H (fun _ _ _ => False)) b tb) (h : tb (startF N [v] ws) H Q) :
    wpAny (model P w) A (call (.ref f) [u]) (CE outer P w H s Q) E s := by
  have lim : s.heap.NoLimit := e0.mod.nolimit.keeps fun b o e => (e0.bs b o e).1
  obtain ⟨od, sl, pm, ctv, ho⟩ := lamO_at e0.hok hf
  have rc : codeAny (model P w) A (.call (.ref f) ⟨[u], []⟩) (CR CX0 outer P w H s Q (fun _ _ _ => False)) s := by
    refine PySem.W.kla_callFunE hr.depth ho rfl S.co S.gen rfl (codeO_at e0.hok hc) ?_
    rw [hbind]
    refine wpAny_pure (wpAny_newFunctionEnv S.nocell (fun y hy => by rw [List.mem_singleton.mp hy]; exact S.par p List.mem_cons_self) (fun h₁ hns hsb => ⟨lim.fresh _ hsb, ?_⟩) S.kind)
    show codeAny _ _ (.expr b (envF F f s.heap.objs.size)) _ _
    have kp : ∀ b o, s.heap.get? b = some o → h₁.get? b = some o := fun b o e => hsb.extBut b o (Nat.ne_of_lt (Heap.lt_size e)) (Heap.get?_push_of_some _ e)
    have I : Inv (ncx CX0 P w K mg base N F f A outer s H (fun _ _ _ => False)) [] (startF N [v] ws) H { s with heap := h₁, toks := s.toks + [(p, u)].length } := inv_startN (ps := [p]) (us := [u]) (vs := [v]) S hr.hd e0 rfl (.cons r .nil) C hns kp
    refine PySem.W.kla_codeExpr (wpAny_mono ((hbody (hr.deeper _)).run [] _ _ H Q I h) (fun v s' hq => ?_) fun e s' hq => hq)
    obtain ⟨w', H', J', rv, q⟩ := hq
    exact ⟨w', H', J'.os, J'.bare, J'.base, J'.hok, rv, q⟩
  refine wpAny_call (codeAny_mono rc fun r s' hq => ?_)
  cases r with
  | error e => exact False.elim hq
  | ok fl =>
    cases fl with
    | ret u => exact hq
    | next => exact False.elim hq
    | brk => exact False.elim hq
    | cont => exact False.elim hq
end
section
variable {X : Cx} {pins : List (Addr × Obj)} {σ : L2.St} {H : Hp} {s s0 : Shared} {H0 : Hp}
structure Behind (X : Cx) (pins : List (Addr × Obj)) (n : Nat) : Prop where
  sz : X.s_0.heap.objs.size ≤ n
  loc : X.env.locals < n
  cell : ∀ x c, X.env.cells.lookup x = some c → c < n
  pin : ∀ p ∈ X.pn ++ pins, p.1 < n
theorem behind_of (I : Inv X pins σ H s) : Behind X pins s.heap.objs.size where
  sz := I.sz
  loc := I.lt
  cell := fun x c e => by
    obtain ⟨v, o, ho, _⟩ := I.cell x c e
    exact Heap.lt_size ho
  pin := fun p hp => Heap.lt_size (I.pin p hp).1
theorem Behind.mono {n m : Nat} (b : Behind X pins n) (h : n ≤ m) : Behind X pins m := ⟨Nat.le_trans b.sz h, Nat.lt_of_lt_of_le b.loc h, fun x c e => Nat.lt_of_lt_of_le (b.cell x c e) h, fun p hp => Nat.lt_of_lt_of_le (b.pin p hp) h⟩
theorem Behind.ch {n : Nat} (b : Behind X pins n) {ch : List Addr} (h : ∀ a ∈ ch, n ≤ a) : ∀ a ∈ ch, (a ∈ X.ex ∨ X.s_0.heap.objs.size ≤ a) ∧ a ≠ X.env.locals ∧ (∀ x c, X.env.cells.lookup x = some c → c ≠ a) ∧ ∀ p ∈ X.pn ++ pins, p.1 ≠ a := fun a ha =>
  have l := h a ha
  ⟨.inr (Nat.le_trans b.sz l), fun z => Nat.lt_irrefl _ (Nat.lt_of_lt_of_le b.loc (z ▸ l)), fun x c e z => Nat.lt_irrefl _ (Nat.lt_of_lt_of_le (b.cell x c e) (z ▸ l)), fun p hp z => Nat.lt_irrefl _ (Nat.lt_of_lt_of_le (b.pin p hp) (z ▸ l))⟩
theorem hok_but {P : Program} {w : World} {h h' : Heap} {ch : List Addr} (x : HOk P w H h) (hu : ∀ a ∈ ch, H a = none) (k : ∀ b o, b ∉ ch → h.get? b = some o → h'.get? b = some o) : HOk P w H h' := fun b u e => by
  refine (x b u e).stay (fun d v hd q => k d v (fun z => ?_) q) (fun d q => q) fun d xs q => q
  have n := hu d z
  rcases hd with rfl | hd
  · rw [n] at e; cases e
  · rw [n] at hd; cases hd
theorem inv_hid {s' : Shared} {ch : List Addr} {n : Nat} (I : Inv X pins σ H s) (bh : Behind X pins n) (hc : ∀ a ∈ ch, n ≤ a) (hu : ∀ a ∈ ch, H a = none) (k : ∀ b o, b ∉ ch → s.heap.get? b = some o → s'.heap.get? b = some o) (ho : s'.os = s.os) (hg : s'.gens = s.gens) : Inv X pins σ H s' := by
  refine I.call' ho ⟨fun b o e _ _ nb => k b o nb e, fun b o e _ _ nb => ⟨o.slots, k b o nb e⟩, fun _ _ _ e _ => e, fun b o e nb => ⟨o, k b o nb e⟩, fun _ _ e => e, fun _ _ _ e => e, fun _ ps e => ⟨#[], by rw [Array.append_empty]; exact e⟩⟩ (hok_but I.hok hu k) (by rw [hg]; exact I.bare) (bh.ch hc)
theorem inv_see {a : Addr} {o : HO} {n : Nat} (I : Inv X pins σ H s) (bh : Behind X pins n) (hc : n ≤ a) (hu : H a = none) (new : ObjOk X.prog X.w (upd H a o) s.heap a o) : Inv X pins σ (upd H a o) s := by
  refine I.call' (ch := [a]) rfl ⟨fun b o e _ _ _ => e, fun b o e _ _ _ => ⟨o.slots, e⟩, fun b o e n nb => ?_, fun b o e _ => ⟨o, e⟩, fun b xs e => ?_, fun b u v e => ?_, fun b ps e => ⟨#[], ?_⟩⟩ (fun b u e => ?_) I.bare (bh.ch fun b hb => by rw [List.mem_singleton.mp hb]; exact hc)
  · exact (upd_ne fun z => nb (by rw [z]; exact List.mem_singleton.mpr rfl)).trans n
  · exact (upd_ne (ne_of_none e hu)).trans e
  · exact (upd_ne (ne_of_none e hu)).trans e
  · rw [Array.append_empty]; exact (upd_ne (ne_of_none e hu)).trans e
  · by_cases q : b = a
    · subst q; rw [upd_same] at e; cases e; exact new
    · rw [upd_ne q] at e
      exact (I.hok b u e).stay (fun _ _ _ z => z) (fun d z => (upd_ne (ne_of_none z hu)).trans z) fun d xs z => (upd_ne (ne_of_none z hu)).trans z
end
theorem vals_back : ∀ {xs : List V} {us : List Value} {i : Nat} {u : Value}, Vals xs us → us[i]? = some u → ∃ x, xs[i]? = some x ∧ RelV x u
  | [], _, _, _, h, e => by cases h; simp at e
  | x :: xs, _, 0, u, h, e => by
    cases h with
    | cons h r => simp at e; subst e; exact ⟨x, rfl, h⟩
  | x :: xs, _, i + 1, u, h, e => by
    cases h with
    | cons h r => exact vals_back (xs := xs) (i := i) r (by simpa using e)
abbrev KW := En → D → Om → (D → Om → Prop) → Prop
def dlt (d e : D) : Bool := PySem.W.dataLt (toPy d) (toPy e)
def alk (d e : D) : Bool := PySem.W.alike (toPy d) (toPy e)
def KeyOk (d : D) : Prop := eqD d = true ∧ dpt d ≤ 64 ∧ isNon d = false
def CallsTo (X : Cx) (pins : List (Addr × Obj)) (σ : L2.St) (ρ : En) (kw : KW) (A' : Around) (f : Addr) (G : Z → Prop) : Prop :=
  ∀ (z : Z) (s : Shared) (v : V) (u : Value) (d : D) (Φ : D → Om → Prop) (E : Value → Shared → Prop), Inv X pins σ z.h s → z.Ok X.K → RepE X.K z.d σ ρ → G z → Rep X.K z.d v d → RelV v u → kw ρ d z.o Φ →
    wpAny (model X.prog X.w) A' (call (.ref f) [u]) (CE X.stack X.prog X.w z.h s fun v' H' => ∃ z' d', z'.h = H' ∧ To X.K z z' ∧ Rep X.K z'.d v' d' ∧ Φ d' z'.o) E s
theorem rep_dp {K : Fg} {z : Z} (k : z.Ok K) {v : V} {d : D} (r : Rep K z.d v d) (h : eqD d = true) : Dp K z.h v (toPy d) :=
  pyW_ok k (g := fun _ => none) (fun _ _ e => nomatch e) d v _ r (toPy_w _ d h)
theorem toPy_non {d : D} (h : isNon d = false) (e : eqD d = true) : toPy d ≠ .none := by
  cases d <;> first | (intro z; simp [toPy] at z; done) | (simp [isNon] at h; done) | (simp [eqD] at e; done)
def before (mx : Bool) (x y : D) : Bool := if mx then dlt y x else dlt x y
def selW (mx : Bool) (kw : KW) (ρ : En) (ds : List D) (ω : Om) (Φ : D → Om → Prop) : Prop := ∃ k : D → D, (∀ d ∈ ds, KeyOk (k d) ∧ ∀ Φ' : D → Om → Prop, Φ' (k d) ω → kw ρ d ω Φ') ∧ (∀ d ∈ ds, ∀ e ∈ ds, alk (k d) (k e) = true) ∧ ∀ m, m ∈ ds → (∀ y ∈ ds, before mx (k y) (k m) = false) → Φ m ω
def BE.ofW {K : Fg} (w : WPe) : BE K where
  t := fun W σ H Q => ∃ (z : Z) (ρ : En) (Φ : D → Om → Prop) (Ψ : Exn → Om → Prop), z.h = H ∧ w ρ z.o Φ Ψ ∧ z.Ok K ∧ RepE K z.d σ ρ ∧ (∀ v z2 d, To K z z2 → Rep K z2.d v d → Φ d z2.o → Q v z2.h) ∧ ∀ x cls d z2, To K z z2 → RepX K z2 cls d x → Ψ x z2.o → W cls d σ z2.h
  w := w
  ok := fun W ρ z σ Q Φ Ψ h o r q qx => ⟨z, ρ, Φ, Ψ, rfl, h, o, r, q, qx⟩
structure PKey (X : Cx) (ke : Expr) (kw : KW) : Prop where
  run : ∀ (pins : List (Addr × Obj)) (s : Shared) (σ : L2.St) (z : Z) (ρ : En), Inv X pins σ z.h s → z.Ok X.K → RepE X.K z.d σ ρ →
    wpAny (model X.prog X.w) X.A (eval ke X.env) (fun u s' => ∃ (f : Addr) (z1 : Z) (G : Z → Prop), u = .ref f ∧ To X.K z z1 ∧ z1.o = z.o ∧ Inv X pins σ z1.h s' ∧ G z1 ∧ (∀ z z', G z → To X.K z z' → z'.o = z.o → G z') ∧ CallsTo X pins σ ρ kw X.A.in1 f G ∧ CallsTo X pins σ ρ kw X.A.in1.in1 f G) X.xe s
def varO (ρ : En) (j : Nat) : Option D := match ρ[j]? with
  | some o => o
  | none => none
def kEnv (n : Nat) (js : List Nat) (ρ : En) (d : D) : En := some d :: (js.map (varO ρ) ++ List.replicate (n - 1 - js.length) none)
def kwL {K : Fg} (B : BE K) (n : Nat) (js : List Nat) : KW := fun ρ d ω Φ => B.w (kEnv n js ρ d) ω Φ X0
def kwF (W : WP) : KW := fun _ d ω Φ => W [d] ω Φ
theorem rep_kenv {K : Fg} {H : Hp} {σ : L2.St} {ρ : En} {v : V} {d : D} {N : List Str} {js : List Nat} (r : RepE K H σ ρ) (h : Rep K H v d) (hj : 1 + js.length ≤ N.length) : RepE K H (startF N [v] (js.map (slotAt σ))) (kEnv N.length js ρ d) := by
  unfold startF kEnv
  refine ⟨by simp, fun i e hi => ?_⟩
  match i with
  | 0 =>
    simp at hi
    subst hi
    exact ⟨v, rfl, h⟩
  | i + 1 =>
    rw [List.getElem?_cons_succ] at hi
    show ∃ w, ((js.map (slotAt σ)) ++ List.replicate (N.length - [v].length - (js.map (slotAt σ)).length) none)[i]? = some (some w) ∧ Rep K H w e
    by_cases c : i < js.length
    · rw [List.getElem?_append_left (by simpa using c), List.getElem?_map, List.getElem?_eq_getElem c] at hi
      have hi : varO ρ js[i] = some e := Option.some.inj hi
      have h2 : ρ[js[i]]? = some (some e) := by
        unfold varO at hi
        cases q : ρ[js[i]]? with
        | none => rw [q] at hi; cases hi
        | some o => rw [q] at hi; have hi : o = some e := hi; rw [hi]
      obtain ⟨w, w1, w2⟩ := r.at_ _ _ h2
      refine ⟨w, ?_, w2⟩
      rw [List.getElem?_append_left (by simpa using c), List.getElem?_map, List.getElem?_eq_getElem c]
      show some (slotAt σ js[i]) = _
      rw [slotAt_of w1]
    · rw [List.getElem?_append_right (by simpa using Nat.le_of_not_lt c), List.getElem?_replicate] at hi
      split at hi <;> cases hi
theorem to_fn {K : Fg} {z : Z} {H1 : Hp} (ok : z.Ok K) (k1 : ∀ b o, z.h b = some o → NT o → H1 b = some o) (k2 : ∀ b, z.h b ≠ none → H1 b ≠ none) (k3 : TabsN (tabsN K) H1) : To K z ⟨z.d, H1, z.o, z.t⟩ := by
  refine ⟨⟨fun a o e => k1 a o (ok.fz a o e) (ok.nd a o e), fun a c e => ?_, by rw [show (⟨z.d, H1, z.o, z.t⟩ : Z).t = tabsN K from ok.tk]; exact k3, ok.tk, ok.nd⟩, .refl _, fun a o e _ nt => k1 a o e nt, fun a e => k2 a e, rfl, fun _ e => .inl e, fun _ e => .inl e⟩
  obtain ⟨c1, c2⟩ := ok.cell a c e
  exact ⟨c1, c2.mono (.refl _) fun o e => k1 a o e (repC_plain c2 e).1⟩
section
variable {X : Cx} {W : WX}
theorem PKey.lam {k : Nat} {params : Arguments} {body : Expr} {scope : Scope} {pos : Pos} {N fr : List Str} {p : Str} {js : List Nat} {n : Nat} (B : BE X.K) (lc : LamC X "<lambda>") (hr : Room (k + 3) X.A) (hdef : defaultsOf params X.env = ([], [])) (S : NScope N [p] fr scope) (hn : N.length = n)
    (hnd : ndefB X.env.scope scope fr = true) (hjs : js.map (fun j => X.N[j]?) = fr.map some) (hl : 1 + js.length ≤ N.length)
    (hbind : ∀ (name qual : Str) (cl : List (Str × Addr)) (pm cd ctv u : Value), bindArgs (PySem.W.kla_fn name qual params body scope cl pm cd ctv) ⟨[u], []⟩ = pure [(p, u)])
    (hb : ∀ (f c' : Addr) (A : Around) (outer : List Env) (s : Shared) (H : Hp), Room k (A.deeper (envF (lamNF X params scope c') f s.heap.objs.size)) → PE (ncx CX0 X.prog X.w X.K X.mg X.base N (lamNF X params scope c') f A outer s H (fun _ _ _ => False)) body (B.t W0)) :
    PKey X (.Lambda params body scope pos) (kwL B n js) := by
  refine ⟨fun pins s σ z ρ I ok r => ?_⟩
  have hfree := ndef_free hnd
  refine wpAny_mono ((pe_lamV (pos := pos) lc hdef hfree).run pins s σ z.h (fun v H1 => ∃ (f c' : Addr) (z1 : Z), v = .ref f ∧ z1.h = H1 ∧ To X.K z z1 ∧ z1.o = z.o ∧ z1.h f = some (LamO f (lamNF X params scope c') body) ∧ z1.h c' = some (CodeO c' (X.env.qual ++ "<lambda>")) ∧ z1.o f = none ∧ z1.o c' = none) I ⟨by have := ok.tab; rw [ok.tk] at this; exact this, fun f c' H1 k1 k2 k3 k4 k5 k6 => ?_⟩) ?_ fun e s' z => z
  · have t := to_fn ok k1 k2 k3
    have nc : ∀ {a : Addr} {o : HO}, H1 a = some o → (∀ ds c, RepC X.K z.d H1 a c → o = ds → True) → (∃ q, o = CodeO a q) → z.o a = none := fun {a o} e _ hq => by
      cases q : z.o a with
      | none => rfl
      | some c =>
        obtain ⟨q', rfl⟩ := hq
        exact absurd rfl ((repC_plain (t.ok.cell a c q).2 e).2 a q')
    refine ⟨f, c', ⟨z.d, H1, z.o, z.t⟩, rfl, rfl, t, rfl, k5, k6, (ok.free k4).2, nc k6 (fun _ _ _ _ => trivial) ⟨_, rfl⟩⟩
  · rintro u s' ⟨v, H1, J, rv, f, c', z1, rfl, rfl, t, eo, h1, h2, n1, n2⟩
    obtain rfl : u = .ref f := rv
    have calls : ∀ A' : Around, Room (k + 1) A' → A'.frames = X.A.frames → CallsTo X pins σ ρ (kwL B n js) A' f fun z' => z'.h f = some (LamO f (lamNF X params scope c') body) ∧ z'.h c' = some (CodeO c' (X.env.qual ++ "<lambda>")) ∧ z'.o f = none ∧ z'.o c' = none := by
      intro A' hA hfr z2 s2 v u d Φ E' I2 ok2 r2 ⟨g1, g2, _, _⟩ rd ru hk
      have e0 := I2.env0
      have hB : (B.t W0) (startF N [v] (js.map (slotAt σ))) z2.h (fun v' H' => ∃ z' d', z'.h = H' ∧ To X.K z2 z' ∧ Rep X.K z'.d v' d' ∧ Φ d' z'.o) := by
        subst hn
        exact B.ok W0 _ z2 _ _ Φ X0 hk ok2 (rep_kenv r2 rd hl) (fun v' z' d' t' r' h' => ⟨z', d', rfl, t', r', h'⟩) fun _ _ _ _ _ _ z => z.elim
      exact lam_run (k := k) (tb := B.t W0) S (fun pm ctv u => hbind _ _ _ pm _ ctv u) hA ⟨hfr.trans e0.frames, e0.mod, e0.bs, e0.bsz, e0.funs, e0.frf, e0.hok, e0.bare⟩ g1 g2 (cells_of I2 (Caps.made I2.ok hfree (ndef_fr hnd) hjs)) ru (fun hr => hb f c' A' X.stack s2 z2.h hr) hB
    refine ⟨f, z1, _, rfl, t, eo, J, ⟨h1, h2, n1, n2⟩, fun za zb ⟨g1, g2, g3, g4⟩ tt ee => ⟨tt.keep _ _ g1 g3 lamO_nt, tt.keep _ _ g2 g4 codeO_nt, by rw [ee]; exact g3, by rw [ee]; exact g4⟩, calls _ (Room.mono hr.in1 (by omega)) rfl, calls _ hr.in1.in1 rfl⟩
end
end
section
def leK (rev : Bool) (k : D → D) : D → D → Bool := PySem.W.dataLe rev fun d => toPy (k d)
def sortW (rev : Bool) (kw : KW) (ρ : En) (ds : List D) (ω : Om) (F : List D → Prop) : Prop := ∃ k : D → D, (∀ d ∈ ds, KeyOk (k d) ∧ ∀ Φ' : D → Om → Prop, Φ' (k d) ω → kw ρ d ω Φ') ∧ (∀ d ∈ ds, ∀ e ∈ ds, alk (k d) (k e) = true) ∧ ((∀ d ∈ ds, ∃ x r, k d = .tup (x :: r)) ∨ ∀ d ∈ ds, ∀ xs, k d ≠ .tup xs) ∧ F (ds.mergeSort (leK rev k))
section
variable {X : Cx} {pins : List (Addr × Obj)} {σ : L2.St} {s : Shared} {z : Z} {ρ : En} {kw : KW} {f : Addr} {G : Z → Prop}
theorem each_of {α β : Type} {R : α → β → Prop} : ∀ {as : List α} {bs : List β}, as.length = bs.length → (∀ (i : Nat) (a : α) (b : β), as[i]? = some a → bs[i]? = some b → R a b) → PySem.W.EachIs R as bs
  | [], [], _, _ => .nil
  | [], _ :: _, h, _ => by simp at h
  | _ :: _, [], h, _ => by simp at h
  | a :: as, b :: bs, h, k => .cons (k 0 a b rfl rfl) (each_of (by simpa using h) fun i x y hx hy => k (i + 1) x y (by simpa using hx) (by simpa using hy))
theorem each_pair {α β γ : Type} {R : α → β → Prop} {S : β → γ → Prop} : ∀ {as : List α} {bs : List (β × γ)}, PySem.W.EachIs (fun a b => R a b.1) as bs → (∀ b ∈ bs, S b.1 b.2) → Paired R as (bs.map (·.1)) ∧ Paired S (bs.map (·.1)) (bs.map (·.2))
  | [], [], _, _ => ⟨.nil, .nil⟩
  | [], _ :: _, h, _ => nomatch h
  | _ :: _, [], h, _ => nomatch h
  | _ :: _, _ :: _, h, k => by
    cases h with
    | cons h r =>
      obtain ⟨a, b⟩ := each_pair r fun b hb => k b (List.mem_cons_of_mem _ hb)
      exact ⟨.cons h a, .cons (k _ List.mem_cons_self) b⟩
theorem vals_of_pair : ∀ {us : List Value} {xs : List V}, Paired (fun u x => RelV x u) us xs → Vals xs us
  | [], [], _ => .nil
  | _ :: _, _ :: _, h => by
    cases h with
    | cons h r => exact .cons h (vals_of_pair r)
theorem repL_of_pair {K : Fg} {H : Hp} : ∀ {xs : List V} {ds : List D}, Paired (fun x d => Rep K H x d) xs ds → RepL K H xs ds
  | [], [], _ => .nil
  | _ :: _, _ :: _, h => by
    cases h with
    | cons h r => exact .cons h (repL_of_pair r)
theorem sort_run {E : Value → Shared → Prop} {Q : VK} {vx : V} {ux : Value} {dx : D} {ds : List D} {kws : List (Str × Value)} (rev : Bool) (hu : X.A.units + 100 < cLine) (I : Inv X pins σ z.h s) (ok : z.Ok X.K) (r : RepE X.K z.d σ ρ) (hG : ∀ z z', G z → To X.K z z' → z'.o = z.o → G z') (g : G z)
    (C : CallsTo X pins σ ρ kw X.A.in1.in1 f G) (rx : Rep X.K z.d vx dx) (rux : RelV vx ux) (hx : lstOf z.o dx = some ds)
    (ha1 : ∀ l, argsOk "sorted" ⟨[.ref l], kws⟩) (ha2 : ∀ x, argsOk "list.sort" ⟨[.ref x], kws⟩) (ht : ∀ x, Builtin.«list.sort» ⟨[.ref x], kws⟩ = ksk_tree x (.ref f) rev)
    (h : sortW rev kw ρ ds z.o fun out => ∀ (a : Addr) (ys : List V) (z2 : Z), To X.K z z2 → z2.o = z.o → z2.h a = none → RepL X.K z2.d ys out → Q (.ref a) (upd z2.h a (.lst ys))) :
    wpAny (model X.prog X.w) X.A (call (.builtin "sorted") [ux] kws) (EP X pins σ Q) E s := by
  obtain ⟨k, hkey, hal, hsk, hF⟩ := h
  obtain ⟨l, xs, rfl, hl0, rl⟩ := lstOf_seq ok rx hx
  obtain rfl : ux = .ref l := rux
  obtain ⟨its, rv, pl, hz0⟩ := I.list hl0
  have hlen : xs.length = ds.length := rl.length
  have hlv : its.length = ds.length := rv.length.symm.trans hlen
  have hZ : its.length ≤ sizeLine := by rw [hlv, ← hlen]; exact hz0
  have bh := behind_of I
  refine PySem.W.sorted_of_sort pl.isList hZ (ha1 l) ha2 fun E' => ?_
  rw [ht]
  -- the places of the sorted list and of the keys
  obtain ⟨a, ea⟩ : ∃ a, a = s.heap.objs.size + 1 := ⟨_, rfl⟩
  rw [← ea]
  have ho : (PySem.W.copyHeap s.heap its).get? a = some (seqObj "list" its.toArray 0) := by rw [ea]; exact PySem.W.copyHeap_at s.heap its
  have szc : (PySem.W.copyHeap s.heap its).objs.size = s.heap.objs.size + 2 := by
    unfold PySem.W.copyHeap
    rw [size_push', Heap.size_update, size_push']
  unfold ksk_tree
  refine wpAny_bind (listItems_at ho rfl ?_)
  refine wpAny_bind (listUpdate_at ho rfl ?_ (by rw [List.size_toArray]; exact hZ) (Nat.zero_le _))
  obtain ⟨e1, ho1⟩ : ∃ e1, ((PySem.W.copyHeap s.heap its).update a (Obj.mapSeq fun _ => (#[] : Array Value))).get? a = some (seqObj "list" #[] e1) := ⟨_, get?_update_seq ho fun _ => #[]⟩
  refine wpAny_bind (seqEpoch_at ho1 rfl ?_)
  refine wpAny_bind (wpAny_newTuple ?_ (by show its.length ≤ _; exact hZ))
  refine wpAny_bind (wpAny_newList ?_ (Nat.zero_le _))
  refine wpAny_holding ?_
  obtain ⟨kS, ekS⟩ : ∃ kS, kS = (((PySem.W.copyHeap s.heap its).update a (Obj.mapSeq fun _ => (#[] : Array Value))).push (seqObj "tuple" its.toArray 0)).objs.size := ⟨_, rfl⟩
  have ekS2 : kS = s.heap.objs.size + 3 := by rw [ekS, size_push', Heap.size_update, szc]
  have hka : kS ≠ a := by rw [ekS2, ea]; exact Nat.ne_of_gt (by omega)
  have nofr : ∀ b, s.heap.objs.size ≤ b → b ∉ frs X.stack := fun b hb m => by
    rcases List.mem_cons.mp (I.stkSub _ m) with e | e
    · exact Nat.lt_irrefl _ (Nat.lt_of_lt_of_le I.lt (e ▸ hb))
    · exact I.nofs hb e
  have ga : s.heap.objs.size ≤ a := by rw [ea]; exact Nat.le_succ _
  have gk : s.heap.objs.size ≤ kS := by rw [ekS2]; exact Nat.le_add_right _ _
  let JZ : Z → Shared → Prop := fun z' s' => To X.K z z' ∧ z'.o = z.o ∧ G z' ∧ Inv X pins σ z'.h s' ∧ z'.h a = none ∧ z'.h kS = none
  let Keys : Nat → Z → Array Value → Prop := fun n z' kA => kA.size = n ∧ ∀ (i : Nat) (kv : Value), kA.toList[i]? = some kv → ∃ (v : V) (d : D), ds[i]? = some d ∧ RelV v kv ∧ Rep X.K z'.d v (k d)
  show wpAny _ _ (ksk_rest a (.ref f) rev its.toArray e1 (.ref (((PySem.W.copyHeap s.heap its).update a (Obj.mapSeq fun _ => (#[] : Array Value))).push (seqObj "tuple" its.toArray 0)).objs.size)) _ _ _
  rw [← ekS]
  unfold ksk_rest
  refine wpAny_bind (wpAny_rule ?_)
  rw [List.forIn_toArray]
  refine wpAny_bind (ksk_fold (fun i s' => ∃ z' kA e, JZ z' s' ∧ s'.heap.get? kS = some (seqObj "list" kA e) ∧ s'.heap.get? a = some (seqObj "list" #[] e1) ∧ Keys i z' kA) its 0 _ ?start ?step ?done)
  case start =>
    refine ⟨z, #[], 0, ⟨ok.to, rfl, g, ?_, I.hok.fresh ga, I.hok.fresh gk⟩, ?_, ?_, rfl, fun i kv hi => by simp at hi⟩
    · refine I.kept fun b o e => Heap.get?_push_of_some _ (Heap.get?_push_of_some _ ((Heap.get?_update_ne _ _ _ _ ?_).trans (PySem.W.copyHeap_old e)))
      rw [ea]
      exact Nat.ne_of_lt (Nat.lt_succ_of_lt (Heap.lt_size e))
    · rw [ekS]; exact Heap.get?_push_size _ rfl
    · exact Heap.get?_push_of_some _ (Heap.get?_push_of_some _ ho1)
  case step =>
    rintro j u s1 hu1 ⟨z', kA, e, ⟨t, eo, gz, J, n1, n2⟩, hk1, hk2, hk3, hk4⟩
    rw [Nat.zero_add] at hk3 ⊢
    obtain ⟨v, hv, rvu⟩ := vals_back rv hu1
    have hj : j < ds.length := by
      have := (List.getElem?_eq_some_iff.mp hu1).1
      omega
    obtain ⟨y, hy, ry⟩ := RepL.get (rl.mono t.ex) (List.getElem?_eq_getElem hj)
    rw [hv] at hy; cases hy
    have hm : ds[j] ∈ ds := List.getElem_mem hj
    refine wpAny_bind (wpAny_attempt (wpAny_mono (C z' s1 v u ds[j] (fun d' ω' => d' = k ds[j] ∧ ω' = z.o) (fun _ _ => False) J t.ok (r.mono t.ex) gz ry rvu (by rw [eo]; exact (hkey _ hm).2 _ ⟨rfl, rfl⟩)) (fun kv s2 hce => ?_) fun _ _ e => e.elim))
    obtain ⟨v', H', os', bare', un', hok', rk, z2, d', rfl, t2, r2, rfl, eo2⟩ := hce
    have J2 : Inv X pins σ z2.h s2 := J.call' (ch := []) os' un' hok' bare' (fun b hb => absurd hb (by simp))
    have m1 := un'.free _ _ hk2 n1 (by simp)
    have m2 := un'.free _ _ hk1 n2 (by simp)
    have q1 := un'.keep _ _ hk1 n2 (nofr _ gk) (by simp)
    have q2 := un'.keep _ _ hk2 n1 (nofr _ ga) (by simp)
    have zA : kA.size ≤ its.length := by omega
    obtain ⟨c2, hc2⟩ : ∃ c2, (s2.heap.update kS (Obj.mapSeq (·.push kv))).get? kS = some (seqObj "list" (kA.push kv) c2) := ⟨_, get?_update_seq q1 (·.push kv)⟩
    have but := Heap.SameBut.update s2.heap kS (Obj.mapSeq (·.push kv))
    refine wpAny_bind (listUpdate_at q1 rfl ?_ (Nat.le_trans zA hZ) (Nat.le_trans (Nat.le_of_eq (Array.size_push ..)) (Nat.succ_le_succ (Nat.le_trans zA hZ))))
    refine wpAny_pure ⟨rfl, z2, kA.push kv, c2, ⟨t.trans t2, eo2, hG _ _ gz t2 (eo2.trans eo.symm), ?_, m1, m2⟩, hc2, (but.2 a hka.symm).trans q2, by rw [Array.size_push, hk3], fun i w hw => ?_⟩
    · refine inv_hid (ch := [kS]) J2 bh (fun b hb => by rw [List.mem_singleton.mp hb]; exact gk) (fun b hb => by rw [List.mem_singleton.mp hb]; exact m2) (fun b o nb e => (but.2 b fun q => nb (by rw [q]; exact List.mem_singleton.mpr rfl)).trans e) rfl rfl
    · rw [Array.toList_push] at hw
      by_cases c : i < kA.toList.length
      · rw [List.getElem?_append_left c] at hw
        obtain ⟨v0, d0, x1, x2, x3⟩ := hk4 i w hw
        exact ⟨v0, d0, x1, x2, x3.mono t2.ex⟩
      · rw [List.getElem?_append_right (by omega)] at hw
        have ei : i = j := by
          have := (List.getElem?_eq_some_iff.mp hw).1
          have : kA.toList.length = j := by rw [Array.length_toList]; exact hk3
          simp at *
          omega
        subst ei
        have : i - kA.toList.length = 0 := by rw [Array.length_toList, hk3]; omega
        rw [this] at hw
        cases hw
        exact ⟨v', _, List.getElem?_eq_getElem hj, rk, r2⟩
  case done =>
    rintro s1 ⟨z', kA, e, ⟨t, eo, gz, J, n1, n2⟩, hk1, hk2, hk3, hk4⟩
    rw [Nat.zero_add] at hk3
    have eL : kA.toList.length = ds.length := by rw [Array.length_toList, hk3, hlv]
    have reads : PySem.W.EachIs (fun v d => ∃ as, Reads s1.heap v d as) kA.toList (ds.map fun d => toPy (k d)) := by
      refine each_of (by rw [List.length_map]; exact eL) fun i kv p h1 h2 => ?_
      obtain ⟨v, d, x1, x2, x3⟩ := hk4 i kv h1
      rw [List.getElem?_map, x1] at h2
      cases h2
      exact Dp.reads J _ _ _ (rep_dp t.ok x3 (hkey d (List.mem_of_getElem? x1)).1.1) x2
    have allA : PySem.W.AllAlike (ds.map fun d => toPy (k d)) := fun p hp p' hp' => by
      obtain ⟨d, hd, rfl⟩ := List.mem_map.mp hp
      obtain ⟨d', hd', rfl⟩ := List.mem_map.mp hp'
      exact hal d hd d' hd'
    have sortA : PySem.W.Sortable (ds.map fun d => toPy (k d)) := by
      rcases hsk with q | q
      · refine .inl fun p hp => ?_
        obtain ⟨d, hd, rfl⟩ := List.mem_map.mp hp
        obtain ⟨x, xr, e⟩ := q d hd
        exact ⟨toPy x, toPyL xr, by rw [e]; simp [toPy, toPyL]⟩
      · refine .inr fun p hp => ?_
        obtain ⟨d, hd, rfl⟩ := List.mem_map.mp hp
        refine ⟨toPy_non (hkey d hd).1.2.2 (hkey d hd).1.1, fun ps e => ?_⟩
        cases c : k d with
        | tup xs' => exact q d hd xs' c
        | _ => rw [c] at e; simp [toPy] at e
    obtain ⟨g0, gy, gn⟩ := L2.restrict s1.heap fun b => decide (b ≠ kS)
    have gk0 : g0.get? kS = none := gn kS (by simp)
    have kp : PySem.W.KeepsBut a g0 s1.heap := fun b o _ e => by
      by_cases c : b = kS
      · rw [c, gk0] at e; cases e
      · rw [gy b (by simpa using c)] at e; exact e
    refine wpAny_bind (listItems_at hk1 rfl ?_)
    refine PySem.W.keyH_end (κ := PySem.W.dataKind s1.heap (ds.map fun d => toPy (k d))) (h₁ := g0) kp gk0 hk1 hk2 hka (PySem.W.SortsAt.data reads allA sortA fun p hp => ?_) (by rw [hk3]) hZ fun h' tk c kp' hD => ⟨rfl, ?_⟩
    · obtain ⟨d, hd, rfl⟩ := List.mem_map.mp hp
      have : (toPy (k d)).depth ≤ 64 := by rw [toPy_d]; exact (hkey d hd).1.2.1
      show X.A.units + 1 + 1 + _ < _
      omega
    -- what is left: the items by their keys
    have kout : PySem.W.KeyedOut rev ((xs.zip ds).map fun p => toPy (k p.2)) its (PySem.W.sortVals (PySem.W.dataKind s1.heap (ds.map fun d => toPy (k d))) rev kA.toList its) := by
      have e2 : (xs.zip ds).map (fun p => toPy (k p.2)) = ds.map fun d => toPy (k d) := by
        have : (xs.zip ds).map (·.2) = ds := by
          rw [List.map_snd_zip]; omega
        calc (xs.zip ds).map (fun p => toPy (k p.2)) = ((xs.zip ds).map (·.2)).map fun d => toPy (k d) := by rw [List.map_map]; rfl
          _ = _ := by rw [this]
      rw [e2]
      exact ⟨s1.heap, kA.toList, allA, rfl, reads⟩
    have eachx : PySem.W.EachIs (fun (u : Value) (p : V × D) => RelV p.1 u) its (xs.zip ds) := by
      refine each_of (by rw [List.length_zip]; omega) fun i u p h1 h2 => ?_
      obtain ⟨x, hx1, rxu⟩ := vals_back rv h1
      rw [List.getElem?_zip_eq_some] at h2
      rw [hx1] at h2
      rw [← Option.some.inj h2.1]
      exact rxu
    have outE := PySem.W.keyedOut_each (R := fun (u : Value) (p : V × D) => RelV p.1 u) (fun p : V × D => toPy (k p.2)) kout eachx
    obtain ⟨p1, p2⟩ := each_pair (R := fun u x => RelV x u) (S := fun x d => Rep X.K z'.d x d) outE (fun p hp => by
      rw [List.mem_mergeSort] at hp
      obtain ⟨i, hi, e⟩ := List.mem_iff_getElem.mp hp
      have hi2 : i < ds.length := by rw [List.length_zip] at hi; omega
      obtain ⟨w, hw, rw'⟩ := RepL.get (rl.mono t.ex) (List.getElem?_eq_getElem hi2)
      have : (xs.zip ds)[i]? = some (w, ds[i]) := by rw [List.getElem?_zip_eq_some]; exact ⟨hw, List.getElem?_eq_getElem hi2⟩
      rw [List.getElem?_eq_getElem hi, e] at this
      cases this
      exact rw')
    have eo2 : ((xs.zip ds).mergeSort (PySem.W.dataLe rev fun p : V × D => toPy (k p.2))).map (·.2) = ds.mergeSort (leK rev k) := by
      have e1 := List.map_mergeSort (r := PySem.W.dataLe rev fun p : V × D => toPy (k p.2)) (s := leK rev k) (f := fun p : V × D => p.2) (l := xs.zip ds) fun a _ b _ => rfl
      exact e1.trans (congrArg (fun l => List.mergeSort l (leK rev k)) (List.map_snd_zip (by omega)))
    rw [eo2] at p2
    generalize ((xs.zip ds).mergeSort (PySem.W.dataLe rev fun p : V × D => toPy (k p.2))).map (·.1) = ys at p1 p2
    have ry := repL_of_pair p2
    have vy := vals_of_pair p1
    have old : ∀ b o, b ∉ [a, kS] → s1.heap.get? b = some o → h'.get? b = some o := fun b o nb e => by
      refine kp' b o (fun q => nb (by rw [q]; simp)) ?_
      rw [gy b (by simp at nb ⊢; exact nb.2)]
      exact e
    have J3 : Inv X pins σ z'.h { s1 with heap := h', toks := tk } := inv_hid (ch := [a, kS]) J bh (fun b hb => by
      simp only [List.mem_cons, List.not_mem_nil, or_false] at hb
      rcases hb with rfl | rfl
      · exact ga
      · exact gk) (fun b hb => by
      simp only [List.mem_cons, List.not_mem_nil, or_false] at hb
      rcases hb with rfl | rfl
      · exact n1
      · exact n2) old rfl rfl
    have lny : ys.length ≤ sizeLine := by
      rw [ry.length, List.length_mergeSort, ← hlen]; exact hz0
    exact ⟨.ref a, _, inv_see (o := .lst ys) J3 bh ga n1 ⟨lny, _, c, vy, hD⟩, rfl, hF a ys z' t eo n1 ry⟩
end
theorem PKey.fn {X : Cx} {k : Nat} {x : Str} {ps : List Str} {Wf : WP} {p : Pos} (F : OkP X.prog X.w X.K X.mg X.base k (x, none) ps Wf) (hp : ps.length = 1) (hr : Room (k + 2) X.A) (hm : X.mg x = some (.ref (He.ga X.K x))) (hg : Gl X x := by rfl) (hdb : (x == ("__debug__" : Str)) = false := by decide) : PKey X (.Name x p) (kwF Wf) := by
  refine ⟨fun pins s σ z ρ I ok r => ld_glob I hg hm ?_ hdb⟩
  obtain ⟨fd, F1, F2, _⟩ := F
  have calls : ∀ A' : Around, Room k A' → A'.frames = X.A.frames → CallsTo X pins σ ρ (kwF Wf) A' (He.ga X.K x) fun _ => True := by
    intro A' hA hfr z2 s2 v u d Φ E' I2 ok2 r2 _ rd ru hk
    have e0 := I2.env0
    have hb := F2 s2 [u] I2.kIn (by rw [List.append_nil]; exact hp.symm)
    rw [List.append_nil] at hb
    refine wpAny_call (codeAny_mono (F1.run A' X.stack s2 z2.h ⟨[u], []⟩ [u] [v] (fun v' H' => ∃ z' d', z'.h = H' ∧ To X.K z2 z' ∧ Rep X.K z'.d v' d' ∧ Φ d' z'.o) (fun _ _ _ => False) hA ⟨hfr.trans e0.frames, e0.mod, e0.bs, e0.bsz, e0.funs, e0.frf, e0.hok, e0.bare⟩ hb (.cons ru .nil) ⟨z2, [d], Φ, rfl, ok2, .cons rd .nil, hk, fun v' z' d' t' r' h' => ⟨z', d', rfl, t', r', h'⟩⟩) fun r s' hq => ?_)
    cases r with
    | error e => exact False.elim hq
    | ok fl =>
      cases fl with
      | ret u => exact hq
      | next => exact False.elim hq
      | brk => exact False.elim hq
      | cont => exact False.elim hq
  exact ⟨_, z, fun _ => True, rfl, ok.to, rfl, I, trivial, fun _ _ _ _ _ => trivial, calls _ (Room.mono hr.in1 (by omega)) rfl, calls _ hr.in1.in1 rfl⟩
theorem sorted_end {K : Fg} {z z1 z3 : Z} {own : Bool} {a : Addr} {ys : List V} {out : List D} {Φ : D → Om → Prop} {Q : VK} (t : To K z z3) (eo : z3.o = z1.o) (na : z3.h a = none) (ry : RepL K z3.d ys out) (h : if own = true then ∀ a, z1.o a = none → Φ (.ref a) (z1.o.set a (.lst out)) else Φ (.lst out) z1.o)
    (q : ∀ v z2 d, To K z z2 → Rep K z2.d v d → Φ d z2.o → Q v z2.h) : Q (.ref a) (upd z3.h a (.lst ys)) := by
  cases own with
  | true =>
    rw [if_pos rfl] at h
    have fr := t.ok.free na
    have l := t.ok.lay (o := .lst ys) (c := .lst out) na ⟨ys, upd_same, ry⟩
    exact q (.ref a) _ (.ref a) (t.trans l) (.ref a) (by show Φ _ (z3.o.set a _); rw [eo]; exact h a (by rw [← eo]; exact fr.2))
  | false =>
    rw [if_neg Bool.false_ne_true] at h
    have l := t.ok.add (o := .lst ys) na
    exact q (.ref a) _ (.lst out) (t.trans l) (.lst upd_same (ry.mono l.ex)) (by show Φ _ z3.o; rw [eo]; exact h)
def itV (x : D) (F : List D → Prop) : Prop := match x with
  | .lst ds => F ds
  | _ => False
def one1 (xs : List D) (F : D → Prop) : Prop := match xs with
  | [x] => F x
  | _ => False
theorem one1_iff {xs : List D} {F : D → Prop} : one1 xs F ↔ ∃ x, xs = [x] ∧ F x := by
  unfold one1
  split
  · simp
  · rename_i h
    exact ⟨fun z => z.elim, fun ⟨x, e, _⟩ => absurd e (h x)⟩
def bSel {K : Fg} (mx : Bool) (A : BA K) (kw : KW) : BE K := BE.ofW fun ρ ω Φ Ψ => A.w ρ ω (fun xs ω1 => one1 xs fun x => itV x fun ds => (ds = [] → Φ .non ω1) ∧ (ds ≠ [] → selW mx kw ρ ds ω1 Φ)) Ψ
def bSortK {K : Fg} (own rev : Bool) (A : BA K) (kw : KW) : BE K := BE.ofW fun ρ ω Φ Ψ => A.w ρ ω (fun xs ω1 => one1 xs fun x => optW (lstOf ω1 x) fun ds => sortW rev kw ρ ds ω1 fun out => if own = true then ∀ a, ω1 a = none → Φ (.ref a) (ω1.set a (.lst out)) else Φ (.lst out) ω1) Ψ
section
variable {X : Cx} {W : WX} {A : BA X.K} {kw : KW} {ke e : Expr} {p pos kp kp2 cp : Pos} {x : Str}
theorem boot_sorted_ : bootBuiltins "sorted" = some (.builtin "sorted") := by decide +kernel
theorem P_sortK {k : Nat} {own : Bool} (hk : PKey X ke kw) (hm : X.mg "sorted" = none) (ha : PA X [e] (A.t W)) (hr : Room k X.A) (hg : Gl X "sorted" := by rfl)
    (he : backTo pos (starEach [e] X.env) = (false, eval e X.env) :: backTo pos (starEach [] X.env) := by rfl) (hpl : (backTo pos (starEach [e] X.env)).any (·.1) = false := by rfl) :
    PE X (.Call (.Name "sorted" p) [e] [⟨some "key", ke, kp⟩] pos) ((bSortK own false A kw).t W) := by
  refine ⟨fun pins s σ H Q I ⟨z, ρ, Φ, Ψ, hz, hw, ok, r, q, qx⟩ => ?_⟩
  subst hz
  refine wpAny_Call_Name_kw (ld_blt I hg hm boot_sorted_ ?_ (by decide) (by decide))
  have hargs := ha.run pos pins s σ z.h (fun vs H1 => ∃ v z1 d ds, vs = [v] ∧ z1.h = H1 ∧ To X.K z z1 ∧ Rep X.K z1.d v d ∧ lstOf z1.o d = some ds ∧ sortW false kw ρ ds z1.o fun out => if own = true then ∀ a, z1.o a = none → Φ (.ref a) (z1.o.set a (.lst out)) else Φ (.lst out) z1.o) I
    (A.ok W ρ z σ _ _ Ψ hw ok r (fun vs z1 xs t1 r1 h1 => by
      obtain ⟨d, rfl, h2⟩ := one1_iff.mp h1
      obtain ⟨v, rfl, r2⟩ := rep1 r1
      obtain ⟨ds, h2, h3⟩ := optW_iff.mp h2
      exact ⟨v, z1, d, ds, rfl, rfl, t1, r2, h2, h3⟩) qx)
  refine PyProof.Rows.callWith_kw (thn hargs ?_) he hpl (by rfl) (by rfl)
  rintro us s1 ⟨vs, H1, I1, rv, v, z1, d, ds, rfl, rfl, t1, rd, hd, hs⟩
  cases rv with
  | cons ru rn =>
  cases rn
  refine wpAny_evalAll_cons (wpAny_bind (thn (hk.run pins s1 σ z1 ρ I1 t1.ok (r.mono t1.ex)) ?_))
  rintro _ s2 ⟨f, z2, G, rfl, t2, eo, I2, g, hG, _, C2⟩
  refine wpAny_bind (wpAny_standAt (wpAny_pure (wpAny_evalAll_nil ?_)))
  have t12 := t1.trans t2
  refine sort_run false (by have := hr.un; omega) I2 t2.ok (r.mono t12.ex) hG g C2 (rd.mono t2.ex) ru (by rw [eo]; exact hd) (fun l => ksk_s1 _ _) (fun l => ksk_l1 _ _) (fun a => ksk_t1 _ _) ?_
  rw [eo]
  obtain ⟨k, h1, h2, h3, h4⟩ := hs
  exact ⟨k, h1, h2, h3, fun a ys z3 t3 eo3 na ry => sorted_end (own := own) (t12.trans t3) eo3 na ry h4 q⟩
theorem P_sortRK {k : Nat} {own : Bool} {j : Nat} (hk : PKey X ke kw) (hm : X.mg "sorted" = none) (ha : PA X [e] (A.t W)) (hr : Room k X.A) (hg : Gl X "sorted" := by rfl)
    (he : backTo pos (starEach [e] X.env) = (false, eval e X.env) :: backTo pos (starEach [] X.env) := by rfl) (hpl : (backTo pos (starEach [e] X.env)).any (·.1) = false := by rfl) :
    PE X (.Call (.Name "sorted" p) [e] [⟨some "reverse", .Constant (.bool true) j cp, kp2⟩, ⟨some "key", ke, kp⟩] pos) ((bSortK own true A kw).t W) := by
  refine ⟨fun pins s σ H Q I ⟨z, ρ, Φ, Ψ, hz, hw, ok, r, q, qx⟩ => ?_⟩
  subst hz
  refine wpAny_Call_Name_kw (ld_blt I hg hm boot_sorted_ ?_ (by decide) (by decide))
  have hargs := ha.run pos pins s σ z.h (fun vs H1 => ∃ v z1 d ds, vs = [v] ∧ z1.h = H1 ∧ To X.K z z1 ∧ Rep X.K z1.d v d ∧ lstOf z1.o d = some ds ∧ sortW true kw ρ ds z1.o fun out => if own = true then ∀ a, z1.o a = none → Φ (.ref a) (z1.o.set a (.lst out)) else Φ (.lst out) z1.o) I
    (A.ok W ρ z σ _ _ Ψ hw ok r (fun vs z1 xs t1 r1 h1 => by
      obtain ⟨d, rfl, h2⟩ := one1_iff.mp h1
      obtain ⟨v, rfl, r2⟩ := rep1 r1
      obtain ⟨ds, h2, h3⟩ := optW_iff.mp h2
      exact ⟨v, z1, d, ds, rfl, rfl, t1, r2, h2, h3⟩) qx)
  refine PyProof.Rows.callWith_kw (thn hargs ?_) he hpl (by rfl) (by rfl)
  rintro us s1 ⟨vs, H1, I1, rv, v, z1, d, ds, rfl, rfl, t1, rd, hd, hs⟩
  cases rv with
  | cons ru rn =>
  cases rn
  refine wpAny_evalAll_cons (wpAny_bind (thn ((P_bl (i := true) (W := W) (pos := cp) (j := j)).run pins s1 σ z1.h (fun v H => v = .bl true ∧ H = z1.h) I1 ⟨rfl, rfl⟩) ?_))
  rintro ub s1' ⟨_, _, I1', rb, rfl, rfl⟩
  obtain rfl : ub = .bool true := rb
  refine wpAny_bind (wpAny_standAt (wpAny_pure ?_))
  refine wpAny_evalAll_cons (wpAny_bind (thn (hk.run pins s1' σ z1 ρ I1' t1.ok (r.mono t1.ex)) ?_))
  rintro _ s2 ⟨f, z2, G, rfl, t2, eo, I2, g, hG, _, C2⟩
  refine wpAny_bind (wpAny_standAt (wpAny_pure (wpAny_evalAll_nil ?_)))
  have t12 := t1.trans t2
  refine sort_run true (by have := hr.un; omega) I2 t2.ok (r.mono t12.ex) hG g C2 (rd.mono t2.ex) ru (by rw [eo]; exact hd) (fun l => ksk_s3 _ _ _) (fun l => ksk_l3 _ _ _) (fun a => ksk_t3 _ _ _) ?_
  rw [eo]
  obtain ⟨k, h1, h2, h3, h4⟩ := hs
  exact ⟨k, h1, h2, h3, fun a ys z3 t3 eo3 na ry => sorted_end (own := own) (t12.trans t3) eo3 na ry h4 q⟩
end
section
variable {K : Fg} {ρ : En} {ω : Om} {Φ : D → Om → Prop} {Ψ : Exn → Om → Prop} {As : BA K} {B : BE K} {kw : KW} {d : D} {ds : List D} {F : List D → Prop} {F1 : D → Prop} {u : Option D} {r : En} {n : Nat} {js : List Nat}
theorem x_sel {mx : Bool} : (bSel mx As kw).w ρ ω Φ Ψ = As.w ρ ω (fun xs ω1 => one1 xs fun x => itV x fun ds => (ds = [] → Φ .non ω1) ∧ (ds ≠ [] → selW mx kw ρ ds ω1 Φ)) Ψ := rfl
theorem x_sortKF {rev : Bool} : (bSortK false rev As kw).w ρ ω Φ Ψ = As.w ρ ω (fun xs ω1 => one1 xs fun x => optW (lstOf ω1 x) fun ds => sortW rev kw ρ ds ω1 fun out => Φ (.lst out) ω1) Ψ := rfl
theorem x_sortKT {rev : Bool} : (bSortK true rev As kw).w ρ ω Φ Ψ = As.w ρ ω (fun xs ω1 => one1 xs fun x => optW (lstOf ω1 x) fun ds => sortW rev kw ρ ds ω1 fun out => ∀ a, ω1 a = none → Φ (.ref a) (ω1.set a (.lst out))) Ψ := rfl
theorem x_one1 : one1 [d] F1 = F1 d := rfl
theorem x_itV : itV (.lst ds) F = F ds := rfl
theorem x_kwL : kwL B n js ρ d ω Φ = B.w (kEnv n js ρ d) ω Φ X0 := rfl
theorem x_kwF {W : WP} : kwF W ρ d ω Φ = W [d] ω Φ := rfl
theorem x_kEnv : kEnv n js ρ d = some d :: (js.map (varO ρ) ++ List.replicate (n - 1 - js.length) none) := rfl
theorem x_vo0 : varO (u :: r) 0 = u := rfl
theorem x_vo1 : varO (u :: r) (n + 1) = varO r n := rfl
end
theorem toPy_two {s : List Nat} {i : Int} : toPy (.tup [.str s, .int i]) = .tuple [.str ⟨s.toArray⟩, .int i] := by simp [toPy, toPyL]
theorem itemLt_str (s t : List Nat) : PyProof.Rows.itemOrd.blt (.inr s) (.inr t) = ltS s t := by
  show PyProof.Rows.strKind.blt s t = decide (s < t)
  first | rfl | (simp [PyProof.Rows.strKind]; done)
theorem toks_two (s : List Nat) (i : Int) : PySem.W.keyToks (toPy (.tup [.str s, .int i])) = [.inl 1, .inr s, .inl 1, .inl i, .inl 0] := by
  rw [toPy_two]
  simp [PySem.W.keyToks, PySem.W.keyToksAll]
def lt2 (s : List Nat) (i : Int) (t : List Nat) (j : Int) : Bool := ltS s t || (!ltS t s && decide (i < j))
theorem dlt_two (s t : List Nat) (i j : Int) : dlt (.tup [.str s, .int i]) (.tup [.str t, .int j]) = lt2 s i t j := by
  unfold dlt PySem.W.dataLt lt2
  rw [toks_two, toks_two, PyProof.Rows.lex_self, PyProof.Rows.lex_cons, PyProof.Rows.lex_self, PyProof.Rows.lex_cons, PyProof.Rows.lex_irrefl, itemLt_str, itemLt_str]
  have e : PyProof.Rows.itemOrd.blt (.inl i) (.inl j) = decide (i < j) := rfl
  rw [e]
  simp
theorem dlt_int (i j : Int) : dlt (.int i) (.int j) = decide (i < j) := PySem.W.dataLt_int i j
theorem alk_int (i j : Int) : alk (.int i) (.int j) = true := by simp [alk, toPy, PySem.W.alike]
theorem alk_two (s t : List Nat) (i j : Int) : alk (.tup [.str s, .int i]) (.tup [.str t, .int j]) = true := by simp [alk, toPy, toPyL, PySem.W.alike, PySem.W.alikeAll]
theorem keyOk_int (i : Int) : KeyOk (.int i) := ⟨rfl, Nat.zero_le _, rfl⟩
theorem keyOk_two {s : List Nat} (h : s.all (· < 0x110000) = true) (i : Int) : KeyOk (.tup [.str s, .int i]) := ⟨by simp [eqD, eqDL]; simpa using h, by simp [dpt, dptL], rfl⟩
theorem leK_eq (rev : Bool) (k : D → D) (a b : D) : leK rev k a b = !(if rev then dlt (k a) (k b) else dlt (k b) (k a)) := by
  unfold leK
  rw [PySem.W.dataLe_eq]
  cases rev <;> rfl
section
variable {K : Fg} {ω : Om} {Φ : D → Om → Prop}
theorem lst_two {L : D} {ds : List D} (h : lstOf ω L = some ds) : L = .lst ds ∨ ∃ a, L = .ref a ∧ ω a = some (.lst ds) := by
  cases L with
  | lst es => left; simp [lstOf] at h; rw [h]
  | ref a => right; exact ⟨a, rfl, lstOf_ref.mp h⟩
  | _ => simp [lstOf] at h
theorem it_any {L : D} {ds : List D} {F : List D → (Om → Prop) → Om → Prop} (h : lstOf ω L = some ds) (q : ∀ chk : Om → Prop, chk ω → F ds chk ω) : itemsW L ω F := by
  rcases lst_two h with rfl | ⟨a, rfl, ha⟩
  · exact q _ trivial
  · exact ⟨ds, ha, q _ ha⟩
end
def bRevL {K : Fg} (own : Bool) (A : BE K) : BE K where
  t := fun W => tRevL K (A.t W)
  w := fun ρ ω Φ Ψ => A.w ρ ω (fun x ω1 => optW (lstOf ω1 x) fun ds => if own = true then ∀ a, ω1 a = none → Φ (.ref a) (ω1.set a (.lst ds.reverse)) else Φ (.lst ds.reverse) ω1) Ψ
  ok := fun W ρ z σ Q Φ Ψ h k r q qx => by
    refine A.ok W ρ z σ _ _ Ψ h k r (fun x z1 d t1 r1 h1 => ?_) qx
    obtain ⟨ds, h2, h3⟩ := optW_iff.mp h1
    obtain ⟨a, xs, rfl, hs, rx⟩ := lstOf_seq t1.ok r1 h2
    exact ⟨a, xs, rfl, hs, fun p hp => sorted_end (own := own) (z1 := z1) t1 rfl hp rx.reverse h3 q⟩
section
variable {K : Fg} {ρ : En} {ω : Om} {Φ : D → Om → Prop} {Ψ : Exn → Om → Prop} {A : BE K}
theorem x_revLF : (bRevL false A).w ρ ω Φ Ψ = A.w ρ ω (fun x ω1 => optW (lstOf ω1 x) fun ds => Φ (.lst ds.reverse) ω1) Ψ := rfl
theorem x_revLT : (bRevL true A).w ρ ω Φ Ψ = A.w ρ ω (fun x ω1 => optW (lstOf ω1 x) fun ds => ∀ a, ω1 a = none → Φ (.ref a) (ω1.set a (.lst ds.reverse))) Ψ := rfl
end
end
end T
namespace G
open PySem L2 T
section
def okc (c : Nat) : Bool := decide (32 ≤ c) && decide (c ≤ 126)
def isTx (l m : Int) : D → Bool
  | .str s => decide (l ≤ s.length) && decide ((s.length : Int) ≤ m) && s.all okc
  | _ => false
def isKey (d : D) : Bool := isTx 1 20 d
def isVal (d : D) : Bool := isTx 0 40 d
end
section
abbrev Ent := List Nat × Int × Option (List Nat)
def vD : Option (List Nat) → D
  | none => .non
  | some v => .str v
def eD (e : Ent) : D := .tup [.str e.1, .int e.2.1, vD e.2.2]
def oE : Option Ent → D
  | none => .non
  | some e => eD e
def aheadB (a b : Ent) : Bool := if a.1 = b.1 then decide (b.2.1 < a.2.1) else ltS a.1 b.1
structure Newest (es : List Ent) (k : List Nat) (s : Int) (r : Option Ent) : Prop where
  no : r = none → ∀ e ∈ es, e.1 = k → s < e.2.1
  yes : ∀ m, r = some m → m ∈ es ∧ m.1 = k ∧ m.2.1 ≤ s ∧ ∀ e ∈ es, e.1 = k → e.2.1 ≤ s → e.2.1 ≤ m.2.1
end
end G
namespace T
open PySem PySem.Spec PyProof.Rows L2 LamX NdefX
section
theorem fnO_nt {f : Addr} {F : NF} : NT (FnO f F) := fun ps z => by unfold FnO at z; cases z
theorem cellO_nt {c : Addr} {v : V} : NT (CellO c v) := fun ps z => by unfold CellO at z; cases z
section
variable {P : Program} {w : World} {K : Fg} {mg : Str → Option Value} {base : Heap}
theorem hok_cell {H : Hp} {h : Heap} {cc : Addr} {v : V} {u : Value} (x : HOk P w H h) (n : H cc = none) (r : RelV v u) (c : h.IsCell cc (some u)) : HOk P w (upd H cc (CellO cc v)) h := fun b o e => by
  by_cases q : b = cc
  · subst q
    rw [upd_same] at e; cases e
    obtain ⟨oc, h1, h2⟩ := id c
    exact ⟨⟨u, r, c⟩, ⟨_, h1⟩, fun _ _ ⟨u', r', oc', k1, k2⟩ st => ⟨u', r', oc', st _ k1, k2⟩⟩
  · rw [upd_ne q] at e
    exact (x b o e).stay (fun _ _ _ z => z) (fun d z => (upd_ne (ne_of_none z n)).trans z) fun d xs z => (upd_ne (ne_of_none z n)).trans z
theorem clo_to {z : Z} {H1 : Hp} {f c' cc : Addr} {F : NF} {q : Str} {v : V} (k : z.Ok K) (eN : ExtN z.h H1) (nn : ∀ b, H1 b = none → z.h b = none) (T1 : TabsN (tabsN K) H1) (f0 : z.h f = none) (f1 : H1 f = some (FnO f F)) (c1 : H1 c' = some (CodeO c' q)) (ne : c' ≠ f) (cc0 : H1 cc = none) :
    To K z ⟨upd (upd (upd z.d c' (CodeO c' q)) f (FnO f F)) cc (CellO cc v), upd H1 cc (CellO cc v), z.o, z.t⟩ ∧ upd (upd (upd z.d c' (CodeO c' q)) f (FnO f F)) cc (CellO cc v) f = some (FnO f F) ∧ upd (upd (upd z.d c' (CodeO c' q)) f (FnO f F)) cc (CellO cc v) c' = some (CodeO c' q) := by
  have hc0 : z.h cc = none := nn cc cc0
  have n1 : f ≠ cc := fun e => by rw [e, cc0] at f1; cases f1
  have n2 : c' ≠ cc := fun e => by rw [e, cc0] at c1; cases c1
  have up : ∀ b o, z.h b = some o → NT o → upd H1 cc (CellO cc v) b = some o := fun b o e nt => (upd_ne (ne_of_none e hc0)).trans (eN b o e nt)
  have cell0 : ∀ a c, z.o a = some c → a ≠ f ∧ a ≠ cc ∧ a ≠ c' := fun a c e => by
    obtain ⟨_, r⟩ := k.cell a c e
    obtain ⟨o, ho⟩ := r.some
    refine ⟨ne_of_none ho f0, ne_of_none ho hc0, fun z => ?_⟩
    obtain ⟨p1, p2⟩ := repC_plain r ho
    have := eN a o ho p1
    rw [z, c1] at this
    exact p2 _ _ (Option.some.inj this).symm
  have df : z.d f = none := (k.free f0).1
  have dc : z.d cc = none := (k.free hc0).1
  have ex : Exd z.d (upd (upd (upd z.d c' (CodeO c' q)) f (FnO f F)) cc (CellO cc v)) := fun a o e => by
    rw [upd_ne (ne_of_none e dc), upd_ne (ne_of_none e df)]
    by_cases g : a = c'
    · subst g
      rw [upd_same, ← c1]
      exact eN a o (k.fz a o e) (k.nd a o e)
    · rw [upd_ne g]; exact e
  refine ⟨⟨⟨fun a u e => ?_, fun a c e => ?_, T1.ext (fun b o e => (upd_ne (ne_of_none e cc0)).trans e) |> (k.tk ▸ ·), k.tk, nd_upd (nd_upd (nd_upd k.nd codeO_nt) fnO_nt) cellO_nt⟩, ex, fun a o e _ nt => up a o e nt, fun a h => ?_, rfl, fun a e => .inl e, fun a e => ?_⟩, ?_, ?_⟩
  · have e : upd (upd (upd z.d c' (CodeO c' q)) f (FnO f F)) cc (CellO cc v) a = some u := e
    show upd H1 cc (CellO cc v) a = some u
    by_cases g : a = cc
    · subst g; rw [upd_same] at e ⊢; exact e
    · rw [upd_ne g] at e
      rw [upd_ne g]
      by_cases g2 : a = f
      · subst g2; rw [upd_same] at e; rw [f1]; exact e
      · rw [upd_ne g2] at e
        by_cases g3 : a = c'
        · subst g3; rw [upd_same] at e; rw [c1]; exact e
        · rw [upd_ne g3] at e
          exact eN a u (k.fz a u e) (k.nd a u e)
  · obtain ⟨m1, m2, m3⟩ := cell0 a c e
    obtain ⟨r1, r2⟩ := k.cell a c e
    refine ⟨?_, r2.mono ex fun o ho => up a o ho (repC_plain r2 ho).1⟩
    show upd (upd (upd z.d c' (CodeO c' q)) f (FnO f F)) cc (CellO cc v) a = none
    rw [upd_ne m2, upd_ne m1, upd_ne m3]
    exact r1
  · exact upd_kept a (fun e => h (nn a e))
  · by_cases g : a = cc
    · subst g; exact .inr (.inl hc0)
    · have e : upd (upd (upd z.d c' (CodeO c' q)) f (FnO f F)) cc (CellO cc v) a ≠ none := e
      rw [upd_ne g] at e
      by_cases g2 : a = f
      · subst g2; exact .inr (.inl f0)
      · rw [upd_ne g2] at e
        by_cases g3 : a = c'
        · subst g3
          cases h0 : z.h a with
          | none => exact .inr (.inl rfl)
          | some o =>
            refine .inr (.inr (.inr ⟨o, rfl, fun xs hx => ?_⟩))
            have := eN a o h0 (fun ps w => by rw [hx] at w; cases w)
            rw [c1, hx] at this
            unfold CodeO at this; cases this
        · rw [upd_ne g3] at e; exact .inl e
  · rw [upd_ne n1, upd_same]
  · rw [upd_ne n2, upd_ne ne, upd_same]
def WClo (tag : Str) : WP := fun ds ω Φ => ∃ d, ds = [d] ∧ Φ (.clo tag d) ω
theorem fnPClo {name qual : Str} {st : Stmt} {tag x nm : Str} {k : Nat} {tf : List He.Defn} (tk : TabK K tf) (tb : TabsB base mg K tf) (hp : (tag, none) ∈ tf) (F : FnD K name qual st [] (tag, none)) (S : FnScope [x, nm] [x] (defScope st))
    {pa : Arguments} {bo : List Stmt} {sc : Scope} {p3 p4 p5 : Pos} (hbd : defBody st = [.FunctionDef nm pa bo [] none [] sc none nm p3, .Return (some (.Name nm p4)) p5])
    (hbi : ∀ (kV doc pm : Value) (an : Option Addr) (cdv ct : Value) (us : List Value), us.length = [x].length → bindArgs (PySem.W.fnOf name qual (defArgs st) (defBody st) (defScope st) .none kV doc pm an cdv ct) ⟨us, []⟩ = pure ([x].zip us))
    (hnd : ndefB (defScope st) sc [x] = true) (hclo : ∀ (cells : List (Str × Addr)) (c : Addr), cells.lookup x = some c → cloFrom cells sc.names [] = [(x, c)]) (hd0 : pa.defaults = []) (hk0 : pa.kw_defaults = []) (ha : ∀ env, annTrees pa none env = []) (hnm : (defScope st).names.lookup nm = some .local)
    (hdb : (nm == ("__debug__" : Str)) = false) (hcd : (nm == ("__classdict__" : Str)) = false) : OkP P w K mg base (k + 1) (tag, none) [x] (WClo tag) := by
  obtain ⟨fd, F⟩ := F
  have lk : ∃ oc od osl, K.lookup (He.fAd K (tag, none)) = some ⟨oc, od, .func fd, osl⟩ := by
    obtain ⟨oc, od, _, _, _, _, _, _, _, osl, _, h, _⟩ := F.ex
    exact ⟨oc, od, osl, h⟩
  have F0 := F
  obtain ⟨oc, od, dV, kV, doc, pm, an, cdv, ct, osl, rfl, lk2, hcode, _, _⟩ := F.ex
  obtain ⟨c, rfl⟩ := He.codeIn_ref hcode
  have ec : He.codeOf K (tag, none) = c := He.codeOf_eq lk2 rfl
  have h1 := tk.hd _ hp
  have h2 := tk.out _ hp
  have h3 := tb _ hp
  simp only [He.cT, ec] at h1 h2 h3
  have hin : innerOf (defBody st) = nm := by rw [hbd]; rfl
  have hmem : (He.tabOf K c, qual ++ ".<locals>." ++ nm) ∈ tabsOf K := by
    refine List.mem_filterMap.mpr ⟨_, mem_of_look lk2, ?_⟩
    show (if PySem.W.codeHdIn K c (He.tabOf K c) && (K.lookup (He.tabOf K c)).isNone then some (He.tabOf K c, qual ++ ".<locals>." ++ innerOf (defBody st)) else none) = _
    rw [h1, h2, hin]; rfl
  refine ⟨_, ⟨fun vs H Q E h => ?_, fun A outer s H args us vs Q E hr e0 hb r hsp => ?_⟩, F0.bindsN hbi, lk⟩
  · obtain ⟨z, ds', Φ, _, _, rr, ⟨d, rfl, _⟩, _⟩ := h
    exact rr.length
  obtain ⟨z, ds', Φ, rfl, zok, rr, ⟨d, rfl, hΦ⟩, q⟩ := hsp
  obtain ⟨v0, rfl, rv0⟩ : ∃ v0, vs = [v0] ∧ Rep K z.d v0 d := by
    cases rr with
    | cons h t => cases t; exact ⟨_, rfl, h⟩
  obtain ⟨u0, rfl, ru0⟩ : ∃ u0, us = [u0] ∧ RelV v0 u0 := by
    cases r with
    | cons h t => cases t; exact ⟨_, rfl, h⟩
  have KX : K.In s.heap := e0.mod.kin.keeps fun b o e => (e0.bs b o e).1
  have lim : s.heap.NoLimit := e0.mod.nolimit.keeps fun b o e => (e0.bs b o e).1
  have hk : ∀ y ∈ [x].zip [u0], (defScope st).names.lookup y.1 = some .local ∨ ((defScope st).names.lookup y.1 = some .cell ∧ ((cellsFrom (s.heap.objs.size + 1) (defScope st).names []).lookup y.1).isSome = true) := fun y hy =>
    (S.par y.1 (List.of_mem_zip hy).1).imp id fun g => ⟨g, PySem.W.cellsFrom_some _ _ _ (.inl g)⟩
  refine codeAny_call_function hr.depth (KX _ _ lk2) rfl S.co S.gen rfl (PySem.W.codeRec_of KX hcode) (hb _ _ _ _ ?_)
  refine wpAny_newFunctionEnv_cells S.kind hk fun env he s1 x1 => ?_
  subst he
  refine ⟨lim.keeps x1.toInCall.keep, codeAny_func ?_⟩
  have I : Inv (cxOf CX0 P w K mg base [x, nm] qual (defScope st) (He.fAd K (tag, none)) (.ref c) A outer s z.h E) [] (L2.start [x, nm] [v0]) z.h s1 := inv_start S hr.hd e0 rfl r x1
  have hN : [x, nm].Nodup := S.nd
  rw [hbd]
  have hTz : TabsN (tabsN K) z.h := zok.tk ▸ zok.tab
  refine wpAny_execs_cons (thn ((ps_ndefM (X := cxOf CX0 P w K mg base [x, nm] qual (defScope st) (He.fAd K (tag, none)) (.ref c) A outer s z.h E) (T := tabsN K) (nm := fun _ _ => qual ++ ".<locals>." ++ nm) (c := c) (P := He.tabOf K c) (i := 1) h3 rfl (List.mem_map.mpr ⟨_, hmem, rfl⟩) rfl (fun p hp' e => ?_) (ndef_free hnd) hd0 hk0 (ha _) hN rfl (.inl hnm) (.inl rfl)).run [] s1 _ z.h
    { nx := fun σ H1 => ∃ f c', σ = (L2.start [x, nm] [v0]).set 1 (some (.ref f)) ∧ ExtN z.h H1 ∧ (∀ b, H1 b = none → z.h b = none) ∧ TabsN (tabsN K) H1 ∧ z.h f = none ∧ H1 f = some (FnO f ⟨nm, qual ++ ".<locals>." ++ nm, pa, bo, sc, cloFrom (envOfC qual (defScope st) s.heap.objs.size (He.fAd K (tag, none)) (.ref c)).cells sc.names [], c'⟩) ∧ H1 c' = some (CodeO c' (qual ++ ".<locals>." ++ nm)), rt := fun _ _ => False } I
      ⟨hTz, fun f c' H1 a1 a2 a3 a4 a5 a6 => ⟨f, c', rfl, a1, a2, a3, a4, a5, a6⟩⟩) fun fl s3 g => ?_)
  · obtain ⟨y, hy, rfl⟩ := List.mem_map.mp hp'
    show (fun _ _ => y.2) = _
    rw [tk.uni y hy _ hmem e]
  cases fl with
  | ret u => obtain ⟨_, _, _, _, _, e⟩ := g; exact e.elim
  | brk => obtain ⟨_, _, _, e⟩ := g; exact e.elim
  | cont => obtain ⟨_, _, _, e⟩ := g; exact e.elim
  | next =>
  obtain ⟨σ3, H1, I3, f, c', rfl, eN, nn, T1, f0, f1, c1⟩ := g
  refine wpAny_execs_cons (wpAny_Return_some (thn ((pe_var (X := cxOf CX0 P w K mg base [x, nm] qual (defScope st) (He.fAd K (tag, none)) (.ref c) A outer s z.h E) (x := nm) (i := 1) rfl (.inl hnm) hdb hcd).run [] s3 _ H1 (fun v H => v = .ref f ∧ H = H1) I3 ⟨.ref f, rfl, rfl, rfl⟩) fun u s4 ⟨v, H', J, ru, e1, e2⟩ => ?_))
  subst e1 e2
  have fr : (x, NameKind.free) ∈ sc.names := ndef_fr hnd x List.mem_cons_self
  have C := cells_of J (Caps.made (X := cxOf CX0 P w K mg base [x, nm] qual (defScope st) (He.fAd K (tag, none)) (.ref c) A outer s z.h E) (fr := [x]) (js := [0]) J.ok (ndef_free hnd) (ndef_fr hnd) rfl)
  obtain ⟨cc, hcc, hv⟩ := C.has 0 x rfl
  obtain ⟨uc, ruc, huc⟩ := hv v0 rfl
  have hce := (Caps.made (X := cxOf CX0 P w K mg base [x, nm] qual (defScope st) (He.fAd K (tag, none)) (.ref c) A outer s z.h E) (fr := [x]) (js := [0]) J.ok (ndef_free hnd) (ndef_fr hnd) rfl).sub x cc hcc
  have hcl := hclo _ cc hce
  have cc0 := (C.all x cc hcc).1
  have hge := J.ok.cab x cc rfl hce
  have ne : c' ≠ f := by
    rintro rfl
    rw [f1] at c1
    unfold FnO CodeO at c1
    obtain ⟨_, _, _, _, _, a1⟩ := fnO_at J.hok f1
    obtain ⟨cx, oc', vs', t', ex, b1, b2, b3⟩ := codeO_at (c := c') (q := qual ++ ".<locals>." ++ nm) J.hok (by rw [f1]; unfold FnO CodeO; exact c1)
    cases ex
    rw [a1] at b1; cases b1
    cases b2
  obtain ⟨t3, m1, m2⟩ := clo_to (v := v0) zok eN nn T1 f0 f1 c1 ne cc0
  show CE outer P w z.h s Q u s4
  refine ⟨.ref f, _, J.os, J.bare, ⟨J.base.keep, J.base.slot, fun b o e n hx => ?_, J.base.there, fun b xs e => ?_, fun b o g e => ?_, fun b ps e => ?_⟩, hok_cell J.hok cc0 ruc huc, ru, q _ _ (.clo tag d) t3 (.clo (x := x) (cc := cc) ?_ hcl fr m1 m2 upd_same (rv0.mono t3.ex)) hΦ⟩
  · have q1 := J.base.free b o e n hx
    exact (upd_ne fun g => absurd (Nat.lt_of_lt_of_le (Heap.lt_size e) (g ▸ hge)) (Nat.lt_irrefl _)).trans q1
  · have q1 := J.base.tups b xs e
    exact (upd_ne (ne_of_none q1 cc0)).trans q1
  · have q1 := J.base.frzs b o g e
    exact (upd_ne (ne_of_none q1 cc0)).trans q1
  · obtain ⟨more, q1⟩ := J.base.tbls b ps e
    exact ⟨more, (upd_ne (ne_of_none q1 cc0)).trans q1⟩
  · exact ⟨oc, od, _, osl, _, .FunctionDef nm pa bo [] none [] sc none nm p3, lk2, rfl, by rw [hbd]; rfl, rfl, rfl, rfl, rfl, rfl⟩
end
end
section
def SpI (K : Fg) (W : WP) : List (Option V) → Sp := fun ws vs H Q _ => ∃ (z : Z) (ds : List D) (v : V) (d : D) (Φ : D → Om → Prop), z.h = H ∧ z.Ok K ∧ RepL K z.d vs ds ∧ ws = [some v] ∧ Rep K z.d v d ∧ W (ds ++ [d]) z.o Φ ∧ ∀ v z2 r, To K z z2 → Rep K z2.d v r → Φ r z2.o → Q v z2.h
def InOk (P : Program) (w : World) (K : Fg) (mg : Str → Option Value) (base : Heap) (k : Nat) (tag : Str) (ps : List Str) (W : WP) : Prop :=
  ∀ (F : NF) (cc f : Addr) (y : Str), InnerOf K tag F → F.cl = [(y, cc)] → (y, NameKind.free) ∈ F.scope.names → NOk P w K mg base CX0 k f F ps [y] (SpI K W)
section
variable {P : Program} {w : World} {K : Fg} {mg : Str → Option Value} {base : Heap}
theorem InOk.mono {j k : Nat} {tag : Str} {ps : List Str} {W : WP} (o : InOk P w K mg base j tag ps W) (h : j ≤ k) : InOk P w K mg base k tag ps W := fun F cc f y a b c => (o F cc f y a b c).mono h
theorem fnPIn {name qual x tag : Str} {st ist : Stmt} {N ps : List Str} {k n : Nat} (F0 : FnD K name qual st [] (tag, none)) (hga : He.fAd K (tag, none) = He.ga K tag) (hist : firstDef (defBody st) = some ist) (S : NScope N ps [x] (C8.fnScope ist)) (hx : ∀ y, (y, NameKind.free) ∈ (C8.fnScope ist).names → y = x) {W : WP} (hn : N.length = n) (B : BS K)
    (hbi : ∀ (q : Str) (cl : List (Str × Addr)) (c : Addr) (doc pm ctv : Value) (us : List Value), us.length = ps.length → bindArgs (NF.fd ⟨defNm ist, q, C8.fnArgs ist, C8.fnBody ist, C8.fnScope ist, cl, c⟩ doc pm ctv) ⟨us, []⟩ = pure (ps.zip us))
    (len : ∀ ds ω Φ, W ds ω Φ → ds.length = ps.length + 1)
    (hb : ∀ (q : Str) (cl : List (Str × Addr)) (c f : Addr) (A : Around) (outer : List Env) (s : Shared) (H : Hp) (E : XK), Room k (A.deeper (envF ⟨defNm ist, q, C8.fnArgs ist, C8.fnBody ist, C8.fnScope ist, cl, c⟩ f s.heap.objs.size)) → PSs (ncx CX0 P w K mg base N ⟨defNm ist, q, C8.fnArgs ist, C8.fnBody ist, C8.fnScope ist, cl, c⟩ f A outer s H E).nox (C8.fnBody ist) (B.t W0))
    (hw : ∀ ds ω Φ, W ds ω Φ → B.w (startD n ds) ω ⟨fun _ ω => Φ .non ω, Φ, fun _ _ => False, fun _ _ => False, fun _ _ _ => False⟩) : InOk P w K mg base (k + 1) tag ps W := by
  rintro ⟨nm, q, pa, bo, sc, cl, c⟩ cc f y ⟨oc, od, fd, osl, b, st', lk, hbo, hfd, e1, e2, e3, e4, e5⟩ hcl hy
  obtain ⟨fd0, F⟩ := F0
  obtain ⟨oc', od', dV, kV, doc', pm', an', cdv', ct', osl', rfl, lk2, _, _, _⟩ := F.ex
  rw [hga] at lk2
  rw [lk] at lk2
  obtain ⟨_, _, e0, _⟩ := (Obj.mk.inj (Option.some.inj lk2))
  have e0 := PySem.Data.func.inj e0
  subst e0
  have ebo : PySem.FuncBody.stmts (defBody st) = .stmts b := hbo
  cases ebo
  rw [hist] at hfd
  cases hfd
  dsimp only at e1 e2 e3 e4 e5 hcl hy
  subst e1 e3 e4 e5
  obtain rfl := hx y hy
  subst hn
  refine nok_of S (fun doc pm ctv us hu => hbi _ _ _ _ _ _ _ hu) (fun ws vs H Q E h => ?_) fun A outer s H vs ws Q E hr _ _ _ hsp => ⟨B.t W0, PSs.nox (hb _ _ _ _ _ _ _ _ _ hr), ?_⟩
  · obtain ⟨z, ds, v, d, Φ, _, _, r, _, _, hW, _⟩ := h
    have := len _ _ _ hW
    rw [List.length_append] at this
    simp only [List.length_cons, List.length_nil] at this
    rw [r.length]; omega
  · obtain ⟨z, ds, v, d, Φ, rfl, ok, r, rfl, rv, hW, q⟩ := hsp
    have es : startF N vs [some v] = L2.start N (vs ++ [v]) := by
      unfold startF L2.start
      rw [List.map_append, List.append_assoc, List.length_append]
      simp [Nat.sub_sub]
    rw [es]
    exact B.ok W0 (startD N.length (ds ++ [d])) z (L2.start N (vs ++ [v])) _ _ (hw _ z.o Φ hW) ok (rep_start (r.append (.cons rv .nil))) ⟨fun σ2 ρ2 z2 t _ h2 => q .non z2 .non t .non h2, fun v d z2 t r2 h2 => q v z2 d t r2 h2, fun _ _ _ _ _ h => h.elim, fun _ _ _ _ _ h => h.elim, fun _ _ _ _ _ _ _ _ _ h => h.elim⟩
def hcut (H : Hp) (cc : Addr) : Hp := fun b => if b = cc then none else H b
theorem hcut_same {H : Hp} {cc : Addr} : hcut H cc cc = none := if_pos rfl
theorem hcut_ne {H : Hp} {cc b : Addr} (h : b ≠ cc) : hcut H cc b = H b := if_neg h
theorem hcut_sub {H : Hp} {cc b : Addr} {o : HO} (h : hcut H cc b = some o) : H b = some o := by
  unfold hcut at h
  split at h
  · cases h
  · exact h
theorem dflat_rep {H H' : Hp} {v : V} {d : D} (f : flatD d = true) (r : Rep K H v d) : Rep K H' v d := by
  cases r <;> first | exact .non | exact .bl _ | exact .int _ | exact .str _ | cases f
theorem dflat_repL {H H' : Hp} : ∀ {vs : List V} {ds : List D}, ds.all flatD = true → RepL K H vs ds → RepL K H' vs ds
  | _, _, _, .nil => .nil
  | _, _, f, .cons h t => by
    rw [List.all_cons, Bool.and_eq_true] at f
    exact .cons (dflat_rep f.1 h) (dflat_repL f.2 t)
def tCloN (K : Fg) (tag : Str) (i : Nat) (W : WP) (t : TA) : TE := fun σ H Q => ∃ (f : Addr) (F : NF) (y : Str) (cc : Addr) (v : V), σ[i]? = some (some (.ref f)) ∧ H f = some (FnO f F) ∧ InnerOf K tag F ∧ F.cl = [(y, cc)] ∧ (y, NameKind.free) ∈ F.scope.names ∧
  t σ H fun vs H1 => H1 f = some (FnO f F) ∧ H1 F.c = some (CodeO F.c F.qual) ∧ H1 cc = some (CellO cc v) ∧ ((∀ q, CellO cc v ≠ CodeO cc q) → SpI K W [some v] vs (hcut H1 cc) (fun r H2 => H2 cc = none → Q r (upd H2 cc (CellO cc v))) E0)
def cloW (W : WP) (d : D) (xs : List D) (ω : Om) (Φ : D → Om → Prop) : Prop := xs.all flatD = true ∧ flatD d = true ∧ ∃ r, flatD r = true ∧ W (xs ++ [d]) (fun _ => none) (fun r' _ => r' = r) ∧ Φ r ω
def bClo (tag : Str) (i : Nat) (W : WP) (a : BA K) : BE K where
  t := fun X => tCloN K tag i W (a.t X)
  w := fun ρ ω Φ Ψ => match ρ[i]? with
    | some (some (.clo g d)) => g = tag ∧ a.w ρ ω (fun xs ω1 => cloW W d xs ω1 Φ) Ψ
    | _ => False
  ok := fun X ρ z σ Q Φ Ψ h k r q qx => by
    split at h
    · rename_i g d e
      obtain ⟨rfl, h⟩ := h
      obtain ⟨vf, h1, h2⟩ := r.at_ i _ e
      cases h2 with
      | @clo f cc _ y F v _ hin hcl hfr g1 g2 g3 g4 =>
      refine ⟨f, F, y, cc, v, h1, k.fz _ _ g1, hin, hcl, hfr, ?_⟩
      refine a.ok X ρ z σ _ _ Ψ h k r (fun vs z1 xs t1 rr hh => ?_) qx
      obtain ⟨fx, fd, rv, fr, hW, hΦ⟩ := hh
      have u1 := t1.ok.fz _ _ (t1.ex _ _ g1)
      have u2 := t1.ok.fz _ _ (t1.ex _ _ g2)
      have u3 := t1.ok.fz _ _ (t1.ex _ _ g3)
      refine ⟨u1, u2, u3, fun nq => ?_⟩
      have T1 : TabsN z1.t (hcut z1.h cc) := fun p hp => by
        obtain ⟨ps, a1, a2, a3⟩ := t1.ok.tab p hp
        refine ⟨ps, (hcut_ne fun e => ?_).trans a1, a2, fun pos cv hc => ?_⟩
        · rw [e, u3] at a1
          unfold CellO at a1; cases a1
        · obtain ⟨c, e1, e2⟩ := a3 pos cv hc
          refine ⟨c, e1, (hcut_ne fun e => ?_).trans e2⟩
          rw [e, u3] at e2
          exact nq _ (Option.some.inj e2)
      refine ⟨⟨fun _ => none, hcut z1.h cc, fun _ => none, z1.t⟩, xs, v, d, fun r' _ => r' = rv, rfl, ⟨fun _ _ e => (nomatch e), fun _ _ e => (nomatch e), T1, t1.ok.tk, fun _ _ e => (nomatch e)⟩, dflat_repL fx rr, rfl, dflat_rep fd g4, hW, fun vr z2 r' t2 r2 er c0 => ?_⟩
      subst er
      have kp : ∀ a o, z1.h a = some o → NT o → upd z2.h cc (CellO cc v) a = some o := fun a o e nt => by
        by_cases g : a = cc
        · rw [g, upd_same, ← u3, ← g, e]
        · rw [upd_ne g]
          exact t2.keep a o ((hcut_ne g).trans e) rfl nt
      have t3 : To K z1 ⟨z1.d, upd z2.h cc (CellO cc v), z1.o, z1.t⟩ := by
        refine ⟨⟨fun a o e => kp a o (t1.ok.fz a o e) (t1.ok.nd a o e), fun a c e => ?_, ?_, t1.ok.tk, t1.ok.nd⟩, .refl _, fun a o e _ nt => kp a o e nt, fun a e => ?_, rfl, fun a e => .inl e, fun a e => .inl e⟩
        · obtain ⟨b1, b2⟩ := t1.ok.cell a c e
          exact ⟨b1, b2.mono (.refl _) fun o ho => kp a o ho (repC_plain b2 ho).1⟩
        · have := t2.ok.tab
          rw [t2.tt] at this
          exact tabs_new this c0
        · show upd z2.h cc (CellO cc v) a ≠ none
          by_cases g : a = cc
          · rw [g, upd_same]; simp
          · rw [upd_ne g]
            exact t2.kept a (by show hcut z1.h cc a ≠ none; rw [hcut_ne g]; exact e)
      exact q vr _ _ (t1.trans t3) (dflat_rep fr r2) hΦ
    · exact h.elim
section
variable {X : Cx} {tag x : Str} {i j k : Nat} {W : WP} {ps : List Str} {t : TA} {e : Expr} {es : List Expr} {p pos : Pos}
theorem cellO_ok {P : Program} {w : World} {H : Hp} {h : Heap} {c : Addr} {v : V} (hok : HOk P w H h) (e : H c = some (CellO c v)) : ∃ u, L2.RelV v u ∧ h.IsCell c (some u) := by
  obtain ⟨z, _, _⟩ := hok c _ e
  exact z
theorem pe_clo (Fn : InOk X.prog X.w X.K X.mg X.base k tag ps W) (hr : Room j X.A) (hk : k ≤ j) (hN : X.N[i]? = some x) (hv : Vis X.env.scope x) (ha : PA X (e :: es) t)
    (hd : (x == ("__debug__" : Str)) = false := by decide) (hcd : (x == ("__classdict__" : Str)) = false := by decide)
    (he : starEach (e :: es) X.env = (false, eval e X.env) :: starEach es X.env := by rfl) (hpl : (backTo pos (starEach es X.env)).any (·.1) = false := by rfl) :
    PE X (.Call (.Name x p) (e :: es) [] pos) (tCloN X.K tag i W t) := by
  refine ⟨fun pins s σ H Q I h => ?_⟩
  obtain ⟨f, F, y, cc, v, hs, hf, hin, hcl, hfr, ht⟩ := h
  refine wpAny_Call_Name_kw (thn ((pe_var (pos := p) hN hv hd hcd).run pins s σ H (fun v H1 => v = .ref f ∧ H1 = H) I ⟨.ref f, hs, rfl, rfl⟩) fun u s1 ⟨v1, H1, I1, r1, q1⟩ => ?_)
  obtain ⟨ev, eH⟩ := q1
  subst ev
  rw [eH] at I1
  obtain rfl : u = Value.ref f := r1
  refine PySem.W.callWith_F (first := []) (fnAt_of I1 hf) (thn (ha.run pos pins s1 σ H _ I1 ht) fun us s2 ⟨vs, H2, I2, r, h1, h2, h3, q⟩ => ⟨fnAt_of I2 h1, ?_⟩) he hpl
  show wpAny _ _ (call (.ref f) us) _ _ _
  obtain ⟨u0, ru, hcell⟩ := cellO_ok I2.hok h3
  have q := q fun qq ee => by
    rw [ee] at h3
    obtain ⟨c2, oc, vs', t', ec, b1, b2, b3⟩ := codeO_at I2.hok h3
    cases ec
    obtain ⟨o, ho, hdat⟩ := hcell
    rw [ho] at b1; cases b1
    rw [hdat] at b2; cases b2
  have E2 := I2.env0
  have hcb : ∀ b o, X.base.get? b = some o → b ≠ cc := fun b o eb ec => by
    have := (E2.bs b o eb).2
    rw [ec, h3] at this; cases this
  have hfr2 : cc ∉ frs X.stack := fun hm => by
    have := E2.frf cc hm
    rw [h3] at this; cases this
  have next : ∀ {b : Addr} {g : HO}, H2 b = some g → (∀ z, g ≠ .ext z) → b ≠ cc := fun {b g} eb ng ec => by
    rw [ec, h3] at eb
    unfold CellO at eb
    exact ng _ (Option.some.inj eb).symm
  have E3 : Env0 X.prog X.w X.K X.mg X.base X.A X.stack s2 (hcut H2 cc) := ⟨E2.frames, E2.mod, fun b o eb => ⟨(E2.bs b o eb).1, (hcut_ne (hcb b o eb)).trans (E2.bs b o eb).2⟩, E2.bsz, E2.funs, fun b hb => by
      by_cases g : b = cc
      · rw [g]; exact hcut_same
      · exact (hcut_ne g).trans (E2.frf b hb), fun b o eb => (E2.hok b o (hcut_sub eb)).stay (fun _ _ _ z => z) (fun d z => (hcut_ne (next z fun _ w => by cases w)).trans z) fun d xs z => (hcut_ne (next z fun _ w => by cases w)).trans z, E2.bare⟩
  have C : CellsAt F.cl [y] [some v] s2.heap (hcut H2 cc) := by
    rw [hcl]
    refine ⟨rfl, fun y' c' e' => ?_, fun a b c' e1 e2 => ?_, fun i' y' e' => ?_⟩
    · rw [List.lookup_cons] at e'
      split at e'
      · cases e'; exact ⟨hcut_same, _, hcell⟩
      · cases e'
    · have one : ∀ a, List.lookup a [(y, cc)] = some c' → a = y := fun a ea => by
        rw [List.lookup_cons] at ea
        split at ea
        · rename_i g; exact eq_of_beq g
        · cases ea
      rw [one a e1, one b e2]
    · cases i' with
      | zero =>
        cases e'
        refine ⟨cc, by rw [List.lookup_cons, beq_self_eq_true], fun v' ev => ?_⟩
        cases ev
        exact ⟨u0, ru, hcell⟩
      | succ n => cases e'
  refine wpAny_call (codeAny_mono ((Fn F cc f y hin hcl hfr).run X.A X.stack s2 (hcut H2 cc) us vs _ _ _ (hr.mono hk) E3 ((hcut_ne fun ec => ?_).trans h1) ((hcut_ne fun ec => ?_).trans h2) C r q) fun rr s' hq => ?_)
  · obtain ⟨od, sl, doc, pm, ctv, ho⟩ := fnO_at I2.hok h1
    obtain ⟨o, ho', hdat⟩ := hcell
    rw [ec, ho'] at ho; cases ho
    cases hdat
  · obtain ⟨c2, oc, vs', t', ec2, b1, b2, b3⟩ := codeO_at I2.hok h2
    cases ec2
    obtain ⟨o, ho', hdat⟩ := hcell
    rw [ec, ho'] at b1; cases b1
    rw [hdat] at b2; cases b2
  cases rr with
  | error e => exact hq.elim
  | ok fl =>
    cases fl with
    | ret u =>
      obtain ⟨v', H', os, bare, un, hok, r', q'⟩ := hq
      obtain ⟨oc, hoc, hdat⟩ := id hcell
      have c0 : H' cc = none := un.free cc oc hoc hcut_same (by simp)
      have cell' : s'.heap.IsCell cc (some u0) := ⟨oc, un.keep cc oc hoc hcut_same hfr2 (by simp), hdat⟩
      have back : ∀ {b : Addr}, H2 b = none → b ≠ cc := fun {b} eb ec => by rw [ec, h3] at eb; cases eb
      refine I2.after ⟨v', _, os, bare, ⟨fun b o e n hx hy => un.keep b o e ((hcut_ne (back n)).trans n) hx hy, fun b o e n hx hy => un.slot b o e ((hcut_ne (back n)).trans n) hx hy, fun b o e n hx => (upd_ne (back n)).trans (un.free b o e ((hcut_ne (back n)).trans n) hx), un.there,
        fun b xs e => ?_, fun b o g e => ?_, fun b ps e => ?_⟩, hok_cell hok c0 ru cell', r', q' c0⟩
      · have nb := next e fun _ w => by cases w
        exact (upd_ne nb).trans (un.tups b xs ((hcut_ne nb).trans e))
      · have nb := next e fun _ w => by cases w
        exact (upd_ne nb).trans (un.frzs b o g ((hcut_ne nb).trans e))
      · have nb := next e fun _ w => by cases w
        obtain ⟨more, q1⟩ := un.tbls b ps ((hcut_ne nb).trans e)
        exact ⟨more, (upd_ne nb).trans q1⟩
    | next => exact False.elim hq
    | brk => exact False.elim hq
    | cont => exact False.elim hq
theorem P_clo {WE : WX} {As : BA X.K} (i : Nat) (Fn : InOk X.prog X.w X.K X.mg X.base k tag ps W) (hr : Room k X.A) (ha : PA X (e :: es) (As.t WE)) (hN : X.N[i]? = some x := by rfl) (hv : Vis X.env.scope x := by first | exact Or.inl rfl | exact Or.inr (Or.inl rfl) | exact Or.inr (Or.inr rfl))
    (hd : (x == ("__debug__" : Str)) = false := by decide) (hcd : (x == ("__classdict__" : Str)) = false := by decide)
    (he : starEach (e :: es) X.env = (false, eval e X.env) :: starEach es X.env := by rfl) (hpl : (backTo pos (starEach es X.env)).any (·.1) = false := by rfl) :
    PE X (.Call (.Name x p) (e :: es) [] pos) ((bClo tag i W As).t WE) := pe_clo Fn hr (Nat.le_refl _) hN hv ha hd hcd he hpl
end
section
variable {tag : Str} {i : Nat} {W : WP} {a : BA K} {ρ : En} {ω : Om} {Φ : D → Om → Prop} {Ψ : Exn → Om → Prop} {d : D}
theorem x_clo (h : ρ[i]? = some (some (.clo tag d))) : (bClo tag i W a).w ρ ω Φ Ψ = a.w ρ ω (fun xs ω1 => cloW W d xs ω1 Φ) Ψ := by
  show (match ρ[i]? with
    | some (some (.clo g d)) => g = tag ∧ a.w ρ ω (fun xs ω1 => cloW W d xs ω1 Φ) Ψ
    | _ => False) = _
  rw [h]
  simp
end
end
end
end T
namespace T
open PySem PySem.Spec PyProof.Rows L2
section
def uqStep {α : Type} [BEq α] (acc : List α) (x : α) : List α := if acc.any (· == x) then acc else acc ++ [x]
def uq {α : Type} [BEq α] (xs : List α) : List α := xs.foldl uqStep []
theorem uq_snoc {α : Type} [BEq α] (xs : List α) (x : α) : uq (xs ++ [x]) = uqStep (uq xs) x := by unfold uq; rw [List.foldl_append]; rfl
theorem uqStep_len {α : Type} [BEq α] (acc : List α) (x : α) : (uqStep acc x).length = if acc.any (· == x) then acc.length else acc.length + 1 := by
  unfold uqStep; split <;> simp
theorem uqStep_any {α : Type} [BEq α] [LawfulBEq α] [DecidableEq α] (acc : List α) (x k : α) : (uqStep acc x).any (· == k) = (acc.any (· == k) || decide (k = x)) := by
  unfold uqStep
  split
  · rename_i h
    by_cases e : k = x
    · subst e; rw [h]; simp
    · simp [e]
  · rw [List.any_append, List.any_cons, List.any_nil, Bool.or_false]
    congr 1
    by_cases e : k = x
    · subst e; simp
    · rw [decide_eq_false e]; exact beq_eq_false_iff_ne.mpr fun z => e z.symm
theorem snoc_ind {α : Type} {P : List α → Prop} (h0 : P []) (h1 : ∀ xs x, P xs → P (xs ++ [x])) (xs : List α) : P xs := by
  have key : ∀ ys : List α, P ys.reverse := fun ys => by
    induction ys with
    | nil => exact h0
    | cons y r ih => rw [List.reverse_cons]; exact h1 _ _ ih
  have := key xs.reverse
  rwa [List.reverse_reverse] at this
theorem uq_le {α : Type} [BEq α] (xs : List α) : (uq xs).length ≤ xs.length := by
  induction xs using snoc_ind with
  | h0 => exact Nat.le_refl _
  | h1 xs x ih =>
    rw [uq_snoc, uqStep_len, List.length_append, List.length_singleton]
    split <;> omega
theorem uq_map {α β : Type} [BEq α] [LawfulBEq α] [BEq β] [LawfulBEq β] (f : α → β) (hf : ∀ a b, f a = f b → a = b) (xs : List α) : uq (xs.map f) = (uq xs).map f := by
  induction xs using snoc_ind with
  | h0 => rfl
  | h1 xs x ih =>
    rw [List.map_append, List.map_singleton, uq_snoc, uq_snoc, ih]
    unfold uqStep
    have e : ((uq xs).map f).any (· == f x) = (uq xs).any (· == x) := by
      rw [List.any_map, Bool.eq_iff_iff, List.any_eq_true, List.any_eq_true]
      constructor
      · rintro ⟨y, h1, h2⟩; exact ⟨y, h1, by simpa using hf _ _ (eq_of_beq h2)⟩
      · rintro ⟨y, h1, h2⟩; exact ⟨y, h1, by simpa using congrArg f (eq_of_beq h2)⟩
    rw [e]
    split
    · rfl
    · rw [List.map_append]; rfl
section
variable {prog : Program} {w : World} {A : Around} {R : Result → Shared → Prop} {I : Addr} {fp wr : List Addr} {G : Array GenState → Array GenState → Prop} {n : Nat} {P : Nat → Value → Prop} {St : Nat → Shared → Prop}
theorem loopU (W : WalksS prog w A.in1 I fp wr G n P St) (S : Addr) (hSf : S ∉ fp) (xs : List Str) (hsz : xs.length = n) (hb : n + 1 < scanBound) (hval : ∀ i v, P i v → ∃ x t, xs[i]? = some x ∧ v = .str x t) :
    ∀ (k i : Nat) (s : Shared), n - i = k → i ≤ n → St i s → s.heap.SetOf (PySem.strKind prog w) S (fun k' => (uq (xs.take i)).any (· == k')) (uq (xs.take i)).length →
      (∀ s', Moved (S :: wr) G s s' → s'.heap.SetOf (PySem.strKind prog w) S (fun k' => (uq xs).any (· == k')) (uq xs).length → R (.ok (.ret .none)) s') →
      codeAny (model prog w) A (.builtin "set.update.loop" ⟨[.ref S, .ref I], []⟩) R s
  | 0, i, s, hk, hi, hst, hS, hR => by
    have e : i = n := by omega
    subst e
    rw [← hsz, List.take_length] at hS
    refine codeAny_builtin PyProof.Rows.F.entry_set_update_loop ?_
    rw [Around.under_plainId PyProof.Rows.F.plain_set_update_loop _]
    refine wpAny_bind (m := pyNext (.ref I)) (W.done s _ _ hst fun s' hm => wpAny_pure (hR s' (hm.mono fun b hb => List.mem_cons_of_mem _ hb) ?_))
    obtain ⟨o, es, ep, t, ho, rest⟩ := hS
    exact ⟨o, es, ep, t, hm.heap S _ (fun h => hSf (W.sub _ h)) ho, rest⟩
  | k + 1, i, s, hk, hi, hst, hS, hR => by
    have hlt : i < n := by omega
    have sub : ∀ b ∈ wr, b ∈ S :: wr := fun b hb => List.mem_cons_of_mem _ hb
    refine codeAny_builtin PyProof.Rows.F.entry_set_update_loop ?_
    rw [Around.under_plainId PyProof.Rows.F.plain_set_update_loop _]
    refine wpAny_bind (m := pyNext (.ref I)) (W.item i s _ _ hlt hst fun v s' hP hst' hm => ?_)
    obtain ⟨x, t, hx, rfl⟩ := hval i v hP
    have hS1 : s'.heap.SetOf (PySem.strKind prog w) S (fun k' => (uq (xs.take i)).any (· == k')) (uq (xs.take i)).length := by
      obtain ⟨o, es, ep, tb, ho, rest⟩ := hS
      exact ⟨o, es, ep, tb, hm.heap S _ (fun h => hSf (W.sub _ h)) ho, rest⟩
    refine wpAny_bind (m := holding [Value.str x t] (setAdd S (.str x t))) (wpAny_holding ?_)
    unfold setAdd
    refine wpAny_holding (wpAny_bind ((PySem.strKind prog w).pyHash (k := x) (strKind_is _ _ _ _) ?_))
    have room : (uq (xs.take i)).length + 1 < scanBound := by
      have h1 := uq_le (xs.take i)
      rw [List.length_take] at h1
      have : min i xs.length ≤ n := by rw [hsz]; exact Nat.min_le_right _ _
      omega
    refine wpAny_setAddHashed_of (knd := PySem.strKind prog w) (s := { s' with toks := s'.toks + 1 }) (strKind_is _ _ _ _) rfl hS1 room fun h' hsb hS2 => ?_
    have et : xs.take (i + 1) = xs.take i ++ [x] := by rw [List.take_succ, hx]; rfl
    have hS3 : h'.SetOf (PySem.strKind prog w) S (fun k' => (uq (xs.take (i + 1))).any (· == k')) (uq (xs.take (i + 1))).length := by
      rw [et, uq_snoc]
      exact SetOf_congr hS2 (fun k' => (uqStep_any _ _ _).symm) (uqStep_len _ _).symm
    refine wpAny_pure ⟨plainId_quiet PyProof.Rows.F.plain_set_update_loop _, loopU W S hSf xs hsz hb hval k (i + 1) _ (by omega) hlt (W.frame _ s' _ _ hst' (Nat.le_succ _) fun b hb o e => ?_) hS3 fun s2 hm2 h2 => hR s2 (Moved.trans W.gtrans ((hm.mono sub).then_heap (Nat.le_succ _) fun b o hb e => ?_) hm2) h2⟩
    · rw [hsb.2 b fun z => hSf (z ▸ hb)]; exact e
    · rw [hsb.2 b fun z => hb (z ▸ List.mem_cons_self)]; exact e
end
section
variable {prog : Program} {w : World} {A : Around} {E : Value → Shared → Prop} {s : Shared}
theorem strs_ith {us : List Value} {xs : List Str} (h : StrsAre us xs) {i : Nat} {v : Value} (e : us[i]? = some v) : ∃ x t, xs[i]? = some x ∧ v = .str x t := by
  obtain ⟨t, rfl⟩ := SS.strs_at h i v e
  have hl : i < xs.length := by
    rw [← StrsAre.len_eq h]
    exact (List.getElem?_eq_some_iff.mp e).1
  exact ⟨_, t, by rw [List.getD_eq_getElem?_getD, List.getElem?_eq_getElem hl]; rfl, rfl⟩
set_option maxHeartbeats 3200000 in
theorem call_set_listU {l : Addr} {items : Array Value} {xs : List Str} {Q : Value → Shared → Prop} (hh : A.handled = none) (hl : s.heap.IsList l items) (hi : StrsAre items.toList xs) (hb : xs.length + 1 < scanBound)
    (h : ∀ (h' : Heap) (tk : Nat), h'.SetOf (PySem.strKind prog w) s.heap.objs.size (fun k' => (uq xs).any (· == k')) (uq xs).length → (∀ b o, b < s.heap.objs.size → s.heap.get? b = some o → h'.get? b = some o) → Q (.ref s.heap.objs.size) { s with heap := h', toks := tk }) :
    wpAny (model prog w) A (call (.type "set") [.ref l]) Q E s := by
  obtain ⟨c, tl, hmro⟩ := PySem.F.called_set.mro
  have f1 := PySem.F.called_set.made
  have f2 := PySem.F.called_set.sub
  have f3 := PySem.F.called_set.notType
  have f4 := PySem.F.called_set.canCreate
  have f5 := PySem.F.typeCall_set_1 (.ref l)
  refine wpAny_call (codeAny_of_tree ?_)
  show wpAny _ _ (callAny (.type "set") _) _ _ _
  refine wpAny_pure ⟨Code.quiet_builtin _ (by decide +kernel), codeAny_builtin PySem.F.entry_type_call ?_⟩
  rw [Around.under_plain (weight_type_call_type "set" [.ref l] []) rfl]
  repeat (any_goals (first | assumption | wp_step))
  refine codeAny_mono (code_set_new_1 (.ref l) (E := E) (Q₁ := fun obj s₁ => ∃ led : Bool, obj = .ref s.heap.objs.size ∧ s₁ = { s with heap := s.heap.push { cls := .type "set", dict := none, data := .set #[] 0 (.fresh 0 0 led) } }) fun led => ⟨led, rfl, rfl⟩) fun r s₁ hr => ?_
  match r, hr with
  | .error e, hr => exact hr
  | .ok .next, hr => exact hr.elim
  | .ok .brk, hr => exact hr.elim
  | .ok .cont, hr => exact hr.elim
  | .ok (.ret obj), hr =>
  obtain ⟨led, rfl, rfl⟩ := hr
  have hS : (s.heap.push { cls := .type "set", dict := none, data := .set #[] 0 (.fresh 0 0 led) }).get? s.heap.objs.size = some { cls := .type "set", dict := none, data := .set #[] 0 (.fresh 0 0 led) } := Heap.get?_push_size _ rfl
  have hT : Shared.TypeIs { s with heap := s.heap.push { cls := .type "set", dict := none, data := .set #[] 0 (.fresh 0 0 led) } } (.ref s.heap.objs.size) "set" := ⟨_, hS, rfl⟩
  have f6 := PySem.F.called_set.init.lookup
  have f7 := PySem.F.called_set.init.bind (.ref s.heap.objs.size)
  repeat (any_goals (first | assumption | wp_step))
  refine codeAny_mono (codeAny_call_builtin (R := wants (fun r s₂ => r = .none ∧ ∃ h' tk, s₂ = { s with heap := h', toks := tk } ∧ h'.SetOf (PySem.strKind prog w) s.heap.objs.size (fun k' => (uq xs).any (· == k')) (uq xs).length ∧
      (∀ b o, b < s.heap.objs.size → s.heap.get? b = some o → h'.get? b = some o)) E) PySem.F.called_set.init.plain PySem.F.entry_set_init (check_set_init_1 hT ?_)) fun r₂ s₂ hr₂ => ?_
  · obtain ⟨ol, hol, hcl, nl, hdl⟩ := hl
    obtain ⟨ocls, odict, odata, oslots⟩ := ol
    dsimp only at hcl hdl
    subst hcl hdl
    have hol' : (s.heap.push { cls := .type "set", dict := none, data := .set #[] 0 (.fresh 0 0 led) }).get? l = some { cls := .type "list", dict := odict, data := .seq items nl, slots := oslots } := Heap.get?_push_of_some _ hol
    have g1 := PySem.F.sub_list_set
    have g2 := PySem.F.sub_list_frozenset
    have g3 : (Value.type "list" == Value.type "dict") = false := by decide
    have hl1 : (s.heap.push { cls := .type "set", dict := none, data := .set #[] 0 (.fresh 0 0 led) }).IsList l items := ⟨_, hol', rfl, nl, rfl⟩
    unfold Builtin.«set.__init__» noKeywords Builtin.Frozenset.updateFrom
    generalize hPI : pyIter = PI
    wp_walk
    subst hPI
    have lS : l < s.heap.objs.size := Heap.lt_size hol
    have szP : (s.heap.push { cls := .type "set", dict := none, data := .set #[] 0 (.fresh 0 0 led) }).objs.size = s.heap.objs.size + 1 := Heap.size_push _ _
    refine wpAny_pyIter_list hl1 (wpAny_bind (wpAny_runValue ?_))
    have hsz : xs.length = items.size := by rw [← StrsAre.len_eq hi, Array.length_toList]
    refine loopU ((Walks.list (by simp [hh]) _ l (by rw [szP]; exact Nat.ne_of_lt (Nat.lt_succ_of_lt lS)) items).toS) s.heap.objs.size (by rw [szP]; simp only [List.mem_cons, List.not_mem_nil, or_false, not_or]; exact ⟨Nat.ne_of_lt (Nat.lt_succ_self _), Nat.ne_of_gt lS⟩) xs hsz (by rw [← hsz]; exact hb) (fun i v hv => strs_ith hi (by rw [Array.getElem?_toList]; exact hv)) (items.size - 0) 0 _ (by omega) (Nat.zero_le _)
      ⟨⟨_, Heap.get?_push_size _ rfl, rfl, rfl⟩, hl1.push _⟩ ?_ fun s' hm hS' => ?_
    · exact SetOf_congr ((setObjOf_fresh (knd := PySem.strKind prog w) led).setOf (Heap.get?_push_of_some _ hS) (by unfold scanBound; omega)) (fun _ => rfl) rfl
    · obtain ⟨h', g', d', tk', os'⟩ := s'
      obtain rfl : g' = s.gens := hm.gens
      obtain rfl : d' = s.drawn := hm.drawn
      obtain rfl : os' = s.os := hm.os
      show wpAny _ _ _ _ _ _
      refine wpAny_pure ?_
      show wpAny _ _ (ret Value.none) _ _ _
      refine wpAny_pure ⟨rfl, h', tk', rfl, hS', fun b o hb' e => hm.heap b o ?_ (Heap.get?_push_of_some _ (Heap.get?_push_of_some _ e))⟩
      intro hm'
      rw [szP] at hm'
      simp only [List.mem_cons, List.not_mem_nil, or_false] at hm'
      rcases hm' with hm' | hm'
      · exact absurd hm' (Nat.ne_of_lt hb')
      · exact absurd hm' (Nat.ne_of_lt (Nat.lt_succ_of_lt hb'))
  · match r₂, hr₂ with
    | .error e, hr₂ => exact hr₂
    | .ok .next, hr₂ => exact hr₂.elim
    | .ok .brk, hr₂ => exact hr₂.elim
    | .ok .cont, hr₂ => exact hr₂.elim
    | .ok (.ret r), hr₂ =>
      obtain ⟨rfl, h', tk, rfl, hS', hk'⟩ := hr₂
      repeat (any_goals (first | assumption | wp_step))
      exact h _ _ hS' hk'
end
section
variable {X : Cx}
def tLenSetS (K : Fg) (ta : TE) : TE := fun σ H Q => ta σ H fun x H1 => ∃ (l : Addr) (ts : List Str), x = V.ref l ∧ SqL K H1 l (ts.map V.str) ∧ ts.length ≤ 4000 ∧ Q (.int (uq ts).length) H1
theorem pe_lenSetS {a : Expr} {ta : TE} {p p2 q pos : Pos} (hc : X.calm = true) (hg : Gl X "len") (hm : X.mg "len" = none) (hg2 : Gl X "set") (hm2 : X.mg "set" = none) (ha : PE X a ta)
    (na : starEach [a] X.env = (false, eval a X.env) :: starEach [] X.env := by rfl) : PE X (.Call (.Name "len" p) [.Call (.Name "set" p2) [a] [] q] [] pos) (tLenSetS X.K ta) := by
  refine ⟨fun pins s σ H Q I h => Call_ (ld_blt I hg hm PySem.boot_len (callWith_builtin1 (args_cons (Call_ (ld_blt I hg2 hm2 boot_set (callWith_type1 (args_cons (thn (ha.run pins s σ H _ I h) fun v s1 ⟨x, H1, I1, r1, q1⟩ => args_nil ?_) na) na rfl))) rfl) rfl rfl))⟩
  obtain ⟨l, ts, rfl, hq, h1, q1⟩ := q1
  cases r1
  obtain ⟨its, r, pl, hz⟩ := I1.list hq
  refine call_set_listU (I1.ok.hd hc) pl.isList (xs := ts) (by simpa using strsAre_of r) (by unfold scanBound; omega) fun h' tk hS hk => args_nil ?_
  obtain ⟨o, es, ep, t, ho, hex, hd, _, _, _, hf, hn⟩ := hS
  have I2 : Inv X pins σ H1 { s1 with heap := h', toks := tk } := I1.kept fun b o e => hk b o (Heap.lt_size e) e
  have hle := uq_le ts
  exact call_len_set ho hex hd hf (by rw [hn] <;> omega) ⟨.int (uq ts).length, H1, I2.tok _, ⟨_, by rw [hn]⟩, q1⟩
end
section
variable {K : Fg}
def bLenSetS (a : BE K) : BE K where
  t := fun W => tLenSetS K (a.t W)
  w := fun ρ ω Φ Ψ => a.w ρ ω (fun x ω1 => optW (lstOf ω1 x) fun us => optW (strsOf us) fun ts => NeedW (ts.length ≤ 4000) (Φ (.int ((uq ts).length : Nat)) ω1)) Ψ
  ok := fun W ρ z σ Q Φ Ψ h k r q qx => by
    refine a.ok W ρ z σ _ _ Ψ h k r (fun x z1 d t1 r1 h1 => ?_) qx
    obtain ⟨us, h2, h1⟩ := optW_iff.mp h1
    obtain ⟨ts, h3, h1⟩ := optW_iff.mp h1
    obtain ⟨l, ys, rfl, ha, ry⟩ := lstOf_seq t1.ok r1 h2
    rw [strsOf_eq h3] at ry
    rw [RepL.strs ry] at ha
    refine ⟨l, ts.map sOf, rfl, ha, by rw [List.length_map]; exact h1.1, ?_⟩
    rw [uq_map sOf (fun a b e => by unfold sOf at e; simpa using e), List.length_map]
    exact q _ z1 _ t1 (.int _) h1.2
def bConK (x : Str) (d : D) : BE K where
  t := fun _ _ H Q => (∀ H', Rep K H' (.ref (He.ga K x)) d) → Q (.ref (He.ga K x)) H
  w := fun _ ω Φ _ => Φ d ω
  ok := fun W ρ z σ Q Φ Ψ h k r q _ => fun hr => q _ z d k.to (hr _) h
end
section
variable {X : Cx} {W : WX} {a : Expr} {A : BE X.K} {p p2 q pos : Pos} {x : Str} {d : D}
theorem P_lenSetS (hm : X.mg "len" = none) (hm2 : X.mg "set" = none) (ha : PE X a (A.t W)) (hg : Gl X "len" := by rfl) (hg2 : Gl X "set" := by rfl) (hc : X.calm = true := by rfl)
    (na : starEach [a] X.env = (false, eval a X.env) :: starEach [] X.env := by rfl) : PE X (.Call (.Name "len" p) [.Call (.Name "set" p2) [a] [] q] [] pos) ((bLenSetS A).t W) := pe_lenSetS hc hg hm hg2 hm2 ha na
theorem P_globK (hm : X.mg x = some (.ref (He.ga X.K x)) ∧ ∀ H', Rep X.K H' (.ref (He.ga X.K x)) d) (hg : Gl X x := by rfl) (hd : (x == ("__debug__" : Str)) = false := by decide) : PE X (.Name x pos) ((bConK x d : BE X.K).t W) :=
  ⟨fun pins s σ H Q I h => (pe_glob hg hm.1 (v := .ref (He.ga X.K x)) rfl hd).run pins s σ H Q I (h hm.2)⟩
end
section
variable {K : Fg} {ρ : En} {ω : Om} {Φ : D → Om → Prop} {Ψ : Exn → Om → Prop} {A : BE K}
theorem x_lenSetS : (bLenSetS A).w ρ ω Φ Ψ = A.w ρ ω (fun x ω1 => optW (lstOf ω1 x) fun us => optW (strsOf us) fun ts => NeedW (ts.length ≤ 4000) (Φ (.int ((uq ts).length : Nat)) ω1)) Ψ := rfl
theorem x_conK {x : Str} {d : D} : (bConK x d : BE K).w ρ ω Φ Ψ = Φ d ω := rfl
end
def dvD : He.Dv → Option D
  | .non => some .non
  | .bl b => some (.bl b)
  | .int i => some (.int i)
  | .str x => some (.str (cs x))
  | _ => none
theorem dv_rep {K : Fg} {H : Hp} : ∀ {vs : List He.Dv} {ds : List D}, vs.mapM dvD = some ds → RepL K H (vs.map (He.Dv.v K)) ds
  | [], ds, h => by
    have : ds = [] := by simpa using h.symm
    subst this; exact .nil
  | v :: r, ds, h => by
    rw [List.mapM_cons] at h
    cases e1 : dvD v with
    | none => rw [e1] at h; cases h
    | some d =>
      cases e2 : r.mapM dvD with
      | none => rw [e1, e2] at h; cases h
      | some es =>
        rw [e1, e2] at h
        cases h
        refine .cons ?_ (dv_rep e2)
        cases v <;> first | (cases e1; first | exact .non | exact .bl _ | exact .int _ | exact Rep.cs _) | cases e1
theorem tup_told {K : Fg} {x : Str} {vs : List He.Dv} {ds : List D} (h : He.tupB K x vs = true) (e : vs.mapM dvD = some ds) (H : Hp) : Rep K H (.ref (He.ga K x)) (.tup ds) := .tup (He.tupB_ok h H) (dv_rep e)
end
end T
namespace T
open PySem L2
section
theorem free_one {sc : Scope} {x : Str} (h : (sc.names.all fun p => !decide (p.2 = .free) || decide (p.1 = x)) = true) : ∀ y, (y, NameKind.free) ∈ sc.names → y = x := fun y hy => by
  have := List.all_eq_true.mp h _ hy
  simpa using this
theorem x_WClo {tag : Str} {d : D} {ω : Om} {Φ : D → Om → Prop} : WClo tag [d] ω Φ = Φ (.clo tag d) ω := propext ⟨fun ⟨_, h, g⟩ => by cases h; exact g, fun h => ⟨d, rfl, h⟩⟩
end
end T
namespace G
open PySem L2 T
section
def placeN (f : Int) (t : List Nat) : Int := t.foldl (fun (n : Int) (c : Nat) => (n * f + (c : Int)) % 1000003) 7
def W_probe_in : WP := fun ds ω Φ => ∃ (t : List Nat) (size f : Int), ds = [.str t, .int size, .int f] ∧ 0 < size ∧ 0 ≤ f ∧ f ≤ 1000000 ∧ Φ (.int (placeN f t % size)) ω
def facs : List Int := [31, 37, 41]
def placesOf (t : List Nat) (size : Int) : List Int := facs.map fun f => placeN f t % size
def W_places : WP := fun ds ω Φ => ∃ (t : List Nat) (size : Int), ds = [.str t, .int size] ∧ 0 < size ∧ Φ (.lst ((placesOf t size).map .int)) ω
def sieveSz (ts : List (List Nat)) : Nat := max 8 (8 * (uq ts).length)
def markedB (ts : List (List Nat)) (size : Nat) (p : Nat) : Bool := ts.any fun t => (placesOf t size).any fun x => x == (p : Int)
def W_sieve_of : WP := fun ds ω Φ => ∃ (d : D) (ts : List (List Nat)), ds = [d] ∧ lstOf ω d = some (ts.map .str) ∧ ts.length ≤ 4000 ∧ ∀ b : Nat, (∀ p, b.testBit p = markedB ts (sieveSz ts) p) → Φ (.tup [.int (sieveSz ts : Nat), .int (b : Nat)]) ω
def W_may_have : WP := fun ds ω Φ => ∃ (size : Int) (b : Nat) (t : List Nat), ds = [.tup [.int size, .int (b : Nat)], .str t] ∧ 0 < size ∧ Φ (.bl ((placesOf t size).all fun x => b.testBit x.toNat)) ω
end
section
abbrev k_FACTORS {K : Fg} : BE K := bConK "FACTORS" (.tup [.int 31, .int 37, .int 41])
abbrev k_LEAST_SIZE {K : Fg} : BE K := bCon (.int 8) (.int 8) (fun _ => .int _)
def b_probe_in {K : Fg} : BS K :=
  bsSeq (bsAsg (bInt 7) (bgN 3)) (bsSeq (bsFor (biSeq (bVar 0)) (bgN 4) (bsAsg (bOp (oMod) (bOp (oAdd) (bOp (oMul) (bVar 3) (bVar 2)) (bCB cOrd (baC (bVar 4) (baN)))) (bInt 1000003)) (bgN 3))) (bsRet (bOp (oMod) (bVar 3) (bVar 1))))
theorem len_probe_in : ∀ ds ω Φ, W_probe_in ds ω Φ → ds.length = 3 := by
  intro ds ω Φ h
  obtain ⟨_, _, _, rfl, _⟩ := h; rfl
abbrev W_probe : WP := WClo "probe"
def b_places {K : Fg} : BS K :=
  bsRet (bLc false (biSeq (bLc false (biSeq (k_FACTORS)) (bgN 3) (btYes) (bCall0 W_probe (baC (bVar 3) (baN))) [3] mon_n (only_n (by decide)))) (bgN 2) (btYes) (bClo "probe" 2 W_probe_in (baC (bVar 0) (baC (bVar 1) (baN)))) [2] mon_n (only_n (by decide)))
theorem len_places : ∀ ds ω Φ, W_places ds ω Φ → ds.length = 2 := by
  intro ds ω Φ h
  obtain ⟨_, _, rfl, _⟩ := h; rfl
def b_sieve_of {K : Fg} : BS K :=
  bsSeq (bsAsg (bCB cMax2 (baC (k_LEAST_SIZE) (baC (bOp (oMul) (k_LEAST_SIZE) (bLenSetS (bVar 0))) (baN)))) (bgN 1)) (bsSeq (bsAsg (bInt 0) (bgN 2)) (bsSeq (bsFor (biSeq (bVar 0)) (bgN 3) (bsFor (biSeq (bCall0 W_places (baC (bVar 3) (baC (bVar 1) (baN))))) (bgN 4) (bsAsg (bOp (oOr) (bVar 2) (bOp (oShl) (bInt 1) (bVar 4))) (bgN 2)))) (bsRet (bTup (baC (bVar 1) (baC (bVar 2) (baN)))))))
theorem len_sieve_of : ∀ ds ω Φ, W_sieve_of ds ω Φ → ds.length = 1 := by
  intro ds ω Φ h
  obtain ⟨_, _, rfl, _⟩ := h; rfl
def b_may_have {K : Fg} : BS K :=
  bsRet (bCB cAll (baC (bLc false (biSeq (bCall0 W_places (baC (bVar 1) (baC (bOp oIx (bVar 0) (bInt 0)) (baN))))) (bgN 2) (btYes) (bOp (oEq) (bOp (oAnd) (bOp (oShr) (bOp oIx (bVar 0) (bInt 1)) (bVar 2)) (bInt 1)) (bInt 1)) [2] mon_n (only_n (by decide))) (baN)))
theorem len_may_have : ∀ ds ω Φ, W_may_have ds ω Φ → ds.length = 2 := by
  intro ds ω Φ h
  obtain ⟨_, _, _, rfl, _⟩ := h; rfl
end
section
def numIn (w : List Nat) (l m : Int) : Option Int :=
  if w = [] ∨ 10 < w.length ∨ (1 < w.length ∧ w.head? = some 48) then none
  else if w.all isFig = true ∧ l ≤ figV w ∧ (figV w : Int) ≤ m then some (figV w) else none
def oInt : Option Int → D
  | some i => .int i
  | none => .non
def W_number_in : WP := fun ds ω Φ => ∃ (w : List Nat) (l m : Int), ds = [.str w, .int l, .int m] ∧ w.length ≤ 10000000 ∧ Φ (oInt (numIn w l m)) ω
end
section
def cellAt (ns : List Int) (k : Int) : Int := ns.getD k.toNat 0
def W__law_cell_at : WP := fun ds ω Φ => ∃ (ns : List Int) (k : Int), ds = [.scr ns, .int k] ∧ 0 ≤ k ∧ Φ (.int (cellAt ns k)) ω
end
section
def b__law_cell_at {K : Fg} : BS K :=
  bsSeq (bsIf (btC (bOp (oLt) (bVar 1) (bCB cLen (baC (bVar 0) (baN))))) (bsRet (bOp oIx (bVar 0) (bVar 1))) (bsNext)) (bsRet (bInt 0))
theorem len__law_cell_at : ∀ ds ω Φ, W__law_cell_at ds ω Φ → ds.length = 2 := by
  intro ds ω Φ h
  obtain ⟨_, _, rfl, _⟩ := h; rfl
end
end G
namespace T
open PySem PySem.Spec PyProof.Rows L2
section
def kD : Key → D
  | .inl i => .int i
  | .inr s => .str (cs s)
def keyD : D → Option Key
  | .int i => some (.inl i)
  | .str s => some (.inr (sOf s))
  | _ => none
def keysD : List D → Option (List Key)
  | [] => some []
  | d :: r => match keyD d, keysD r with
    | some k, some ks => some (k :: ks)
    | _, _ => none
theorem kD_rep {K : Fg} {H : Hp} (k : Key) : Rep K H (kV k) (kD k) := by
  cases k with
  | inl i => exact .int i
  | inr s => exact Rep.cs s
theorem kDs_rep {K : Fg} {H : Hp} : ∀ ks : List Key, RepL K H (ks.map kV) (ks.map kD)
  | [] => .nil
  | k :: r => .cons (kD_rep k) (kDs_rep r)
theorem keyD_ok {K : Fg} {H : Hp} {v : V} {d : D} {k : Key} (r : Rep K H v d) (e : keyD d = some k) : v = kV k := by
  cases r <;> cases e <;> rfl
theorem keysD_ok {K : Fg} {H : Hp} : ∀ {vs : List V} {ds : List D} {ks : List Key}, RepL K H vs ds → keysD ds = some ks → vs = ks.map kV
  | _, _, _, .nil, e => by cases e; rfl
  | _, _, _, .cons (d := d) (ds := ds) h r, e => by
    unfold keysD at e
    cases e1 : keyD d with
    | none => rw [e1] at e; cases e
    | some k =>
      cases e2 : keysD ds with
      | none => rw [e1, e2] at e; cases e
      | some ks =>
        rw [e1, e2] at e
        cases e
        rw [keyD_ok h e1, keysD_ok r e2]; rfl
section
variable {κ : Type} [DecidableEq κ]
def valD (kvs : List (κ × D)) (k : κ) : Option D := (kvs.find? fun p => decide (p.1 = k)).map (·.2)
def putD (kvs : List (κ × D)) (k : κ) (d : D) : List (κ × D) := if (kvs.any fun p => decide (p.1 = k)) = true then kvs.map (fun p => if p.1 = k then (p.1, d) else p) else kvs ++ [(k, d)]
def dropD (kvs : List (κ × D)) (k : κ) : List (κ × D) := kvs.filter fun p => decide (p.1 ≠ k)
variable {K : Fg} {H : Hp}
theorem repK_len : ∀ {xs : List (κ × V)} {ds : List (κ × D)}, RepK K H xs ds → xs.length = ds.length
  | _, _, .nil => rfl
  | _, _, .cons _ r => by rw [List.length_cons, List.length_cons, repK_len r]
theorem repK_any (k : κ) : ∀ {xs : List (κ × V)} {ds : List (κ × D)}, RepK K H xs ds → (xs.any fun p => decide (p.1 = k)) = ds.any fun p => decide (p.1 = k)
  | _, _, .nil => rfl
  | _, _, .cons h r => by rw [List.any_cons, List.any_cons, repK_any k r, h.1]
theorem repK_app : ∀ {xs ys : List (κ × V)} {ds es : List (κ × D)}, RepK K H xs ds → RepK K H ys es → RepK K H (xs ++ ys) (ds ++ es)
  | _, _, _, _, .nil, s => s
  | _, _, _, _, .cons h r, s => .cons h (repK_app r s)
theorem repK_map {k : κ} {v : V} {d : D} (rv : Rep K H v d) : ∀ {xs : List (κ × V)} {ds : List (κ × D)}, RepK K H xs ds → RepK K H (xs.map fun p => if p.1 = k then (p.1, v) else p) (ds.map fun p => if p.1 = k then (p.1, d) else p)
  | _, _, .nil => .nil
  | _, _, .cons (a := p) (b := q) h r => by
    refine .cons ?_ (repK_map rv r)
    show (if p.1 = k then (p.1, v) else p).1 = (if q.1 = k then (q.1, d) else q).1 ∧ Rep K H (if p.1 = k then (p.1, v) else p).2 (if q.1 = k then (q.1, d) else q).2
    by_cases e : q.1 = k
    · rw [if_pos e, if_pos (h.1.trans e)]; exact ⟨h.1, rv⟩
    · rw [if_neg e, if_neg (fun z => e (h.1.symm.trans z))]; exact h
theorem repK_put {k : κ} {v : V} {d : D} (rv : Rep K H v d) {xs : List (κ × V)} {ds : List (κ × D)} (r : RepK K H xs ds) : RepK K H (putK xs k v) (putD ds k d) := by
  unfold putK putD
  rw [repK_any k r]
  split
  · exact repK_map rv r
  · exact repK_app r (.cons ⟨rfl, rv⟩ .nil)
theorem repK_val (k : κ) : ∀ {xs : List (κ × V)} {ds : List (κ × D)}, RepK K H xs ds → (valV xs k = none ∧ valD ds k = none) ∨ ∃ v d, valV xs k = some v ∧ valD ds k = some d ∧ Rep K H v d
  | _, _, .nil => .inl ⟨rfl, rfl⟩
  | _, _, .cons (a := p) (b := q) h r => by
    unfold valV valD
    rw [List.find?_cons, List.find?_cons]
    by_cases e : q.1 = k
    · rw [decide_eq_true (h.1.trans e), decide_eq_true e]
      exact .inr ⟨_, _, rfl, rfl, h.2⟩
    · rw [decide_eq_false (fun z => e (h.1.symm.trans z)), decide_eq_false e]
      exact repK_val k r
theorem repK_get : ∀ {xs : List (κ × V)} {ds : List (κ × D)} {i : Nat} {q : κ × D}, RepK K H xs ds → ds[i]? = some q → ∃ v, xs[i]? = some (q.1, v) ∧ Rep K H v q.2
  | _, _, _, _, .nil, e => by simp at e
  | _, _, 0, _, .cons (a := p) h r, e => by
    simp at e; subst e
    exact ⟨p.2, by rw [← h.1]; rfl, h.2⟩
  | _, _, i + 1, _, .cons h r, e => by
    obtain ⟨v, h1, h2⟩ := repK_get (i := i) r (by simpa using e)
    exact ⟨v, by simpa using h1, h2⟩
theorem valD_none {kvs : List (κ × D)} {k : κ} : valD kvs k = none ↔ k ∉ kvs.map (·.1) := by
  unfold valD
  rw [Option.map_eq_none_iff, List.find?_eq_none, List.mem_map]
  constructor
  · rintro h ⟨p, hp, rfl⟩; exact h p hp (decide_eq_true rfl)
  · intro h p hp z; exact h ⟨p, hp, of_decide_eq_true z⟩
theorem putD_new {kvs : List (κ × D)} {k : κ} {d : D} (h : k ∉ kvs.map (·.1)) : putD kvs k d = kvs ++ [(k, d)] := by
  unfold putD
  rw [if_neg]
  intro z
  obtain ⟨p, hp, e⟩ := List.any_eq_true.mp z
  exact h (List.mem_map.mpr ⟨p, hp, of_decide_eq_true e⟩)
theorem valD_nodup {kvs : List (κ × D)} (nd : (kvs.map (·.1)).Nodup) {k : κ} {d : D} (h : (k, d) ∈ kvs) : valD kvs k = some d := by
  induction kvs with
  | nil => cases h
  | cons p r ih =>
    rw [List.map_cons, List.nodup_cons] at nd
    unfold valD
    rw [List.find?_cons]
    rcases List.mem_cons.mp h with e | e
    · rw [← e, decide_eq_true rfl]; rfl
    · rw [decide_eq_false (p := p.1 = k) (fun z => nd.1 (List.mem_map.mpr ⟨_, e, z.symm⟩))]
      exact ih nd.2 e
end
def DGetS (K : Fg) (H : Hp) (a : Addr) (y : V) (r : Option V) : Prop := (∃ kvs k, Rd H a (.dK kvs) ∧ y = kV k ∧ r = valV kvs k) ∨ ∃ kvs k b, Rd H a (.dT kvs) ∧ y = .ref b ∧ SqT K H b (k.map kV) ∧ r = valV kvs k
section
variable {X : Cx} {pins : List (Addr × Obj)} {σ : L2.St} {H : Hp} {s : Shared} {a b : Addr} {y v : V} {u : Value} {o : Option V}
theorem keyS_of {ks : List Key} (I : Inv X pins σ H s) (e : SqT X.K H b (ks.map kV)) : (tupleKind (mixKind X.prog X.w)).is s.heap ks b := by
  obtain ⟨its, r, ⟨o, h1, h2, n, h3⟩, _⟩ := I.tuple e
  exact ⟨o, its.toArray, n, h1, h2, h3, by simpa using items_are r⟩
theorem dS_typeIs (I : Inv X pins σ H s) (g : DGetS X.K H a y o) : s.TypeIs (.ref a) "dict" := by
  rcases g with ⟨kvs, k, e, _⟩ | ⟨kvs, k, b, e, _⟩
  · obtain ⟨_, _, _, _, dd⟩ := dk_rd I.hok e; exact dd.typeIs
  · obtain ⟨_, _, _, _, dd⟩ := dt_rd I.hok e; exact dd.typeIs
theorem dS_get {Q : Value → Shared → Prop} (hu : X.A.units + 1 < cLine) (I : Inv X pins σ H s) (g : DGetS X.K H a y (some v)) (ry : RelV y u) (h : ∀ w' s', Inv X pins σ H s' → RelV v w' → Q w' s') : wpAny (model X.prog X.w) X.A (getItem (.ref a) u) Q X.xe s := by
  rcases g with ⟨kvs, k, e, ey, l⟩ | ⟨kvs, k, b, e, rfl, eb, l⟩
  · exact d_getItem hu I (.inl ⟨kvs, k, e, ey, l⟩) ry h
  · cases (show u = Value.ref b from ry)
    obtain ⟨_, _, xs, rel, dd⟩ := dt_rd I.hok e
    have q := rel.val k
    rw [← l] at q
    obtain ⟨w', hw, rw'⟩ := RelO.some_of q
    obtain ⟨p, hp, rfl⟩ := Option.map_eq_some_iff.mp hw
    exact wpAny_getItem_heap (tupleKind_room_in1 hu) (keyS_of I eb) dd hp (h _ _ (I.tok _) rw')
end
def tDGetS (K : Fg) (td ty : TE) : TE := fun σ H Q => td σ H fun x H1 => ty σ H1 fun y H2 => ∃ a v, x = .ref a ∧ DGetS K H2 a y (some v) ∧ Q v H2
def tDInS (K : Fg) (neg : Bool) (ty td : TE) : TE := fun σ H Q => ty σ H fun y H1 => td σ H1 fun x H2 => ∃ a o, x = .ref a ∧ DGetS K H2 a y o ∧ Q (.bl (if neg then !o.isSome else o.isSome)) H2
section
variable {X : Cx} {o i : Expr} {pos : Pos} {td ty : TE}
theorem pe_dgetS (hu : X.A.units + 1 < cLine) (ho : PE X o td) (hi : PE X i ty) (hs : NoSl i) : PE X (.Subscript o i pos) (tDGetS X.K td ty) := by
  refine ⟨fun pins s σ H Q I h => subD_of PySem.F.slot_dict_getitem.lookup hs (thn (ho.run pins s σ H _ I h) fun u s1 ⟨x, H1, I1, rx, q1⟩ => thn (hi.run pins s1 σ H1 _ I1 q1) fun iv s2 ⟨y, H2, I2, ry, a, v, ex, g, q2⟩ => ?_)⟩
  subst ex
  obtain rfl : u = Value.ref a := rx
  exact ⟨dS_typeIs I2 g, dS_get hu I2 g ry fun w' s3 I3 rw' => ⟨v, H2, I3, rw', q2⟩⟩
end
def tLk (td : TE) : TE := fun σ H Q => td σ H fun x H1 => (∃ d u, x = .ref d ∧ H1 d = some u ∧ Mut (some u) ∧ ∀ o, Q x (upd H1 d (.frz o u))) ∨ Q x H1
theorem pe_lk {X : Cx} {e : Expr} {td : TE} (he : PE X e td) : PE X e (tLk td) := by
  refine ⟨fun pins s σ H Q I h => thn (he.run pins s σ H _ I h) fun u s1 ⟨x, H1, I1, rx, q1⟩ => ?_⟩
  rcases q1 with ⟨d, w, rfl, hd, mu, q⟩ | q
  · obtain ⟨od, I2⟩ := I1.lock hd mu
    exact ⟨_, _, I2, rx, q od⟩
  · exact ⟨_, _, I1, rx, q⟩
section
variable {K : Fg}
def dkOf : Option Cell → Option (List (Key × D))
  | some (.dk kvs) => some kvs
  | some (.fk _ _ kvs) => some kvs
  | _ => none
def dtOf : Option Cell → Option (List (List Key × D))
  | some (.dt kvs) => some kvs
  | some (.ft _ _ kvs) => some kvs
  | _ => none
theorem dkOf_ok {z : Z} (k : z.Ok K) {a : Addr} {kvs : List (Key × D)} (h : dkOf (z.o a) = some kvs) : ∃ xs, Rd z.h a (.dK xs) ∧ RepK K z.d xs kvs := by
  unfold dkOf at h
  split at h
  · rename_i e; cases h
    obtain ⟨_, xs, h1, h2⟩ := k.cell _ _ e; exact ⟨xs, .inl h1, h2⟩
  · rename_i e; cases h
    obtain ⟨_, h1, h2⟩ := k.cell _ _ e; exact ⟨_, .inr ⟨_, h1⟩, h2⟩
  · cases h
theorem dtOf_ok {z : Z} (k : z.Ok K) {a : Addr} {kvs : List (List Key × D)} (h : dtOf (z.o a) = some kvs) : ∃ xs, Rd z.h a (.dT xs) ∧ RepK K z.d xs kvs := by
  unfold dtOf at h
  split at h
  · rename_i e; cases h
    obtain ⟨_, xs, h1, h2⟩ := k.cell _ _ e; exact ⟨xs, .inl h1, h2⟩
  · rename_i e; cases h
    obtain ⟨_, h1, h2⟩ := k.cell _ _ e; exact ⟨_, .inr ⟨_, h1⟩, h2⟩
  · cases h
def dgetW (x y : D) (ω : Om) (F : Option D → Prop) : Prop := match x, y with
  | .ref a, .tup ys => optW (dtOf (ω a)) fun kvs => optW (keysD ys) fun k => F (valD kvs k)
  | .ref a, y => optW (dkOf (ω a)) fun kvs => optW (keyD y) fun k => F (valD kvs k)
  | _, _ => False
theorem dgetW_ok {z : Z} (k : z.Ok K) {v u : V} {x y : D} {F : Option D → Prop} (r1 : Rep K z.d v x) (r2 : Rep K z.d u y) (h : dgetW x y z.o F) : ∃ a r rd, v = .ref a ∧ DGetS K z.h a u r ∧ F rd ∧ ((r = none ∧ rd = none) ∨ ∃ w d, r = some w ∧ rd = some d ∧ Rep K z.d w d) := by
  unfold dgetW at h
  split at h
  · cases r1
    obtain ⟨kvs, h1, h⟩ := optW_iff.mp h
    obtain ⟨kk, h2, h⟩ := optW_iff.mp h
    obtain ⟨xs, g1, g2⟩ := dtOf_ok k h1
    obtain ⟨b, ws, rfl, e1, e2⟩ := rep_tup r2
    rw [keysD_ok e2 h2] at e1
    exact ⟨_, valV xs kk, _, rfl, .inr ⟨xs, kk, b, g1, rfl, k.fz.sqt e1, rfl⟩, h, repK_val kk g2⟩
  · cases r1
    obtain ⟨kvs, h1, h⟩ := optW_iff.mp h
    obtain ⟨kk, h2, h⟩ := optW_iff.mp h
    obtain ⟨xs, g1, g2⟩ := dkOf_ok k h1
    exact ⟨_, valV xs kk, _, rfl, .inl ⟨xs, kk, g1, keyD_ok r2 h2, rfl⟩, h, repK_val kk g2⟩
  · exact h.elim
def bDget (o y : BE K) : BE K where
  t := fun W => tDGetS K (o.t W) (y.t W)
  w := fun ρ ω Φ Ψ => o.w ρ ω (fun x ω1 => y.w ρ ω1 (fun y ω2 => dgetW x y ω2 fun r => optW r fun d => Φ d ω2) Ψ) Ψ
  ok := fun W ρ z σ Q Φ Ψ h k r q qx => by
    refine o.ok W ρ z σ _ _ Ψ h k r (fun v z1 x t1 r1 h1 => ?_) qx
    refine y.ok W ρ z1 σ _ _ Ψ h1 t1.ok (r.mono t1.ex) (fun u z2 y t2 r2 h2 => ?_) fun x cls d z2 t2 => qx x cls d z2 (t1.trans t2)
    obtain ⟨a, rr, rd, rfl, g, f, m⟩ := dgetW_ok t2.ok (r1.mono t2.ex) r2 h2
    obtain ⟨d, rfl, f⟩ := optW_iff.mp f
    rcases m with ⟨_, m⟩ | ⟨w, d', rfl, e, rw'⟩
    · cases m
    · cases e
      exact ⟨a, w, rfl, g, q w z2 d (t1.trans t2) rw' f⟩
def bDin (neg : Bool) (y o : BE K) : BE K where
  t := fun W => tDInS K neg (y.t W) (o.t W)
  w := fun ρ ω Φ Ψ => y.w ρ ω (fun y ω1 => o.w ρ ω1 (fun x ω2 => dgetW x y ω2 fun r => Φ (.bl (if neg then !r.isSome else r.isSome)) ω2) Ψ) Ψ
  ok := fun W ρ z σ Q Φ Ψ h k r q qx => by
    refine y.ok W ρ z σ _ _ Ψ h k r (fun u z1 y t1 r1 h1 => ?_) qx
    refine o.ok W ρ z1 σ _ _ Ψ h1 t1.ok (r.mono t1.ex) (fun v z2 x t2 r2 h2 => ?_) fun x cls d z2 t2 => qx x cls d z2 (t1.trans t2)
    obtain ⟨a, rr, rd, rfl, g, f, m⟩ := dgetW_ok t2.ok r2 (r1.mono t2.ex) h2
    refine ⟨a, rr, rfl, g, q _ z2 _ (t1.trans t2) (.bl _) ?_⟩
    rcases m with ⟨rfl, rfl⟩ | ⟨w, d, rfl, rfl, _⟩ <;> exact f
def dputK (x y d : D) (ω : Om) (F : Om → Prop) : Prop := match x with
  | .ref a => cK (ω a) fun kvs => optW (keyD y) fun k => NeedW (kvs.length < 16777216) (F (ω.set a (.dk (putD kvs k d))))
  | _ => False
def cT (o : Option Cell) (F : List (List Key × D) → Prop) : Prop := match o with
  | some (.dt kvs) => F kvs
  | _ => False
theorem cT_iff {o : Option Cell} {F : List (List Key × D) → Prop} : cT o F ↔ ∃ kvs, o = some (.dt kvs) ∧ F kvs := by
  unfold cT
  constructor
  · split
    · intro h; exact ⟨_, rfl, h⟩
    · exact False.elim
  · rintro ⟨kvs, rfl, h⟩; exact h
theorem cK_iff {o : Option Cell} {F : List (Key × D) → Prop} : cK o F ↔ ∃ kvs, o = some (.dk kvs) ∧ F kvs := by
  unfold cK
  constructor
  · split
    · intro h; exact ⟨_, rfl, h⟩
    · exact False.elim
  · rintro ⟨kvs, rfl, h⟩; exact h
def dputT (x : D) (ys : List D) (d : D) (ω : Om) (F : Om → Prop) : Prop := match x with
  | .ref a => cT (ω a) fun kvs => optW (keysD ys) fun k => NeedW (kvs.length < 16777216 ∧ ys.length < 100) (F (ω.set a (.dt (putD kvs k d))))
  | _ => False
def bsDput (o y v : BE K) : BS K where
  t := fun W => sDPut (o.t W) (y.t W) (v.t W)
  w := fun ρ ω k => v.w ρ ω (fun d ω1 => o.w ρ ω1 (fun x ω2 => y.w ρ ω2 (fun y ω3 => dputK x y d ω3 fun ω4 => k.nx ρ ω4) fun x ω1 => k.xc x ρ ω1) fun x ω1 => k.xc x ρ ω1) fun x ω1 => k.xc x ρ ω1
  ok := fun W ρ z σ D' k h ok r hk => by
    refine v.ok W ρ z σ _ _ _ h ok r (fun vv z1 d t1 r1 h1 => ?_) (hk.qx r)
    refine o.ok W ρ z1 σ _ _ _ h1 t1.ok (r.mono t1.ex) (fun vx z2 x t2 r2 h2 => ?_) ((hk.to t1).qx (r.mono t1.ex))
    have t12 := t1.trans t2
    refine y.ok W ρ z2 σ _ _ _ h2 t2.ok (r.mono t12.ex) (fun vy z3 y t3 r3 h3 => ?_) ((hk.to t12).qx (r.mono t12.ex))
    have t13 := t12.trans t3
    unfold dputK at h3
    split at h3
    · cases r2
      obtain ⟨kvs, hc, h3⟩ := cK_iff.mp h3
      obtain ⟨kk, hkk, hl, h3⟩ := optW_iff.mp h3
      obtain ⟨_, xs, g1, g2⟩ := t3.ok.cell _ _ hc
      have rd := (r1.mono t2.ex).mono t3.ex
      have t := t3.ok.put (o := .dK (putK xs kk vv)) (c' := .dk (putD kvs kk d)) hc ⟨_, upd_same, repK_put rd g2⟩
      refine ⟨_, _, rfl, .inl ⟨xs, kk, g1, keyD_ok r3 hkk, by rw [repK_len g2, sizeLine_eq]; exact hl, rfl⟩, ?_⟩
      exact hk.nx σ ρ _ (t13.trans t) (r.mono (t13.trans t).ex) h3
    · exact h3.elim
def bsDputA (o : BE K) (y : BA K) (v : BE K) : BS K where
  t := fun W => sDPut (o.t W) (tTup (y.t W)) (v.t W)
  w := fun ρ ω k => v.w ρ ω (fun d ω1 => o.w ρ ω1 (fun x ω2 => y.w ρ ω2 (fun ys ω3 => dputT x ys d ω3 fun ω4 => k.nx ρ ω4) fun x ω1 => k.xc x ρ ω1) fun x ω1 => k.xc x ρ ω1) fun x ω1 => k.xc x ρ ω1
  ok := fun W ρ z σ D' k h ok r hk => by
    refine v.ok W ρ z σ _ _ _ h ok r (fun vv z1 d t1 r1 h1 => ?_) (hk.qx r)
    refine o.ok W ρ z1 σ _ _ _ h1 t1.ok (r.mono t1.ex) (fun vx z2 x t2 r2 h2 => ?_) ((hk.to t1).qx (r.mono t1.ex))
    have t12 := t1.trans t2
    refine y.ok W ρ z2 σ _ _ _ h2 t2.ok (r.mono t12.ex) (fun vy z3 ys t3 r3 h3 => ?_) ((hk.to t12).qx (r.mono t12.ex))
    have t13 := t12.trans t3
    unfold dputT at h3
    split at h3
    · cases r2
      obtain ⟨kvs, hc, h3⟩ := cT_iff.mp h3
      obtain ⟨kk, hkk, hl, h3⟩ := optW_iff.mp h3
      have rk := keysD_ok r3 hkk
      have hyl : vy.length ≤ sizeLine := by rw [r3.length, sizeLine_eq]; omega
      refine ⟨hyl, fun p hp => ?_⟩
      have ta := t3.ok.add (o := .tup vy) hp
      obtain ⟨_, xs, g1, g2⟩ := ta.ok.cell _ _ hc
      have rd := ((r1.mono t2.ex).mono t3.ex).mono ta.ex
      have t := ta.ok.put (o := .dT (putK xs kk vv)) (c' := .dt (putD kvs kk d)) hc ⟨_, upd_same, repK_put rd g2⟩
      refine ⟨_, _, rfl, .inr ⟨xs, kk, p, g1, rfl, by rw [← rk]; exact upd_same, by rw [repK_len g2, sizeLine_eq]; exact hl.1, rfl⟩, ?_⟩
      exact hk.nx σ ρ _ ((t13.trans ta).trans t) (r.mono ((t13.trans ta).trans t).ex) h3
    · exact h3.elim
theorem Z.Ok.know {z : Z} (k : z.Ok K) {q : Addr} {xs : List V} (h : z.h q = some (.tup xs)) : To K z ⟨upd z.d q (.tup xs), z.h, z.o, z.t⟩ := by
  have nt : NT (.tup xs) := fun _ w => by cases w
  have ex : Exd z.d (upd z.d q (.tup xs)) := fun a o e => by
    by_cases g : a = q
    · rw [g, upd_same, ← h, ← g]; exact k.fz a o e
    · rw [upd_ne g]; exact e
  refine ⟨⟨fun a o e => ?_, fun a c e => ?_, k.tab, k.tk, nd_upd k.nd nt⟩, ex, fun a o e _ _ => e, fun a e => e, rfl, fun a e => .inl e, fun a e => ?_⟩
  · by_cases g : a = q
    · have e : upd z.d q (.tup xs) a = some o := e
      rw [g, upd_same] at e; cases e; rw [g]; exact h
    · have e : upd z.d q (.tup xs) a = some o := e
      rw [upd_ne g] at e; exact k.fz a o e
  · obtain ⟨c1, c2⟩ := k.cell a c e
    refine ⟨(upd_ne fun g => ?_).trans c1, c2.mono ex fun _ e => e⟩
    rw [g] at c2
    cases c with
    | lst ds => obtain ⟨_, e1, _⟩ := c2; rw [h] at e1; cases e1
    | dk ds => obtain ⟨_, e1, _⟩ := c2; rw [h] at e1; cases e1
    | dt ds => obtain ⟨_, e1, _⟩ := c2; rw [h] at e1; cases e1
    | ins c fs => obtain ⟨_, _, e1, _⟩ := c2; rw [h] at e1; cases e1
    | fk o ys ds => obtain ⟨e1, _⟩ := c2; rw [h] at e1; cases e1
    | ft o ys ds => obtain ⟨e1, _⟩ := c2; rw [h] at e1; cases e1
  · by_cases g : a = q
    · exact .inr (.inr (.inr ⟨_, by rw [g]; exact h, fun _ w => by cases w⟩))
    · have e : upd z.d q (.tup xs) a ≠ none := e
      rw [upd_ne g] at e; exact .inl e
theorem it_keys (z : Z) (a : Addr) (o : Obj) (xs : List (Key × V)) (kvs : List (Key × D)) : ItOk K (Itk a o xs) z (kvs.map fun p => kD p.1) fun ω => ω a = some (.fk o xs kvs) where
  go := fun i z1 t hc hi => by
    obtain ⟨_, h1, h2⟩ := t.ok.cell _ _ hc
    have hl := repK_len h2
    rw [List.length_map] at hi
    refine ⟨⟨h1, by omega⟩, fun x H' ⟨e1, k, v, e2, e3⟩ => ?_⟩
    obtain ⟨v', e4, _⟩ := repK_get (i := i) h2 (List.getElem?_eq_getElem hi)
    rw [e2] at e4
    cases e4
    exact ⟨z1, kD kvs[i].1, t.ok.to, e1.symm, rfl, by rw [List.getElem?_map, List.getElem?_eq_getElem hi]; rfl, by rw [e3]; exact kD_rep _⟩
  stop := fun i z1 t hc hi => by
    obtain ⟨_, h1, h2⟩ := t.ok.cell _ _ hc
    rw [List.length_map] at hi
    exact ⟨h1, by rw [repK_len h2]; exact hi⟩
theorem it_keysT (z : Z) (a : Addr) (o : Obj) (xs : List (List Key × V)) (kvs : List (List Key × D)) : ItOk K (Itkt a o xs) z (kvs.map fun p => .tup (p.1.map kD)) fun ω => ω a = some (.ft o xs kvs) where
  go := fun i z1 t hc hi => by
    obtain ⟨_, h1, h2⟩ := t.ok.cell _ _ hc
    have hl := repK_len h2
    rw [List.length_map] at hi
    refine ⟨⟨h1, by omega⟩, fun x H' ⟨e1, k, v, q, e2, e3, e5⟩ => ?_⟩
    obtain ⟨v', e4, _⟩ := repK_get (i := i) h2 (List.getElem?_eq_getElem hi)
    rw [e2] at e4
    cases e4
    subst e1 e3
    exact ⟨_, .tup (kvs[i].1.map kD), t.ok.know e5, rfl, rfl, by rw [List.getElem?_map, List.getElem?_eq_getElem hi]; rfl, .tup (SqT.of upd_same) (kDs_rep _)⟩
  stop := fun i z1 t hc hi => by
    obtain ⟨_, h1, h2⟩ := t.ok.cell _ _ hc
    rw [List.length_map] at hi
    exact ⟨h1, by rw [repK_len h2]; exact hi⟩
def keysW (x : D) (ω : Om) (F : List D → (Om → Prop) → Om → Prop) : Prop := match x with
  | .ref a => (match ω a with
    | some (.dk kvs) => ∀ o xs, F (kvs.map fun p => kD p.1) (fun ω' => ω' a = some (.fk o xs kvs)) (ω.set a (.fk o xs kvs))
    | some (.dt kvs) => ∀ o xs, F (kvs.map fun p => .tup (p.1.map kD)) (fun ω' => ω' a = some (.ft o xs kvs)) (ω.set a (.ft o xs kvs))
    | some (.fk o xs kvs) => F (kvs.map fun p => kD p.1) (fun ω' => ω' a = some (.fk o xs kvs)) ω
    | some (.ft o xs kvs) => F (kvs.map fun p => .tup (p.1.map kD)) (fun ω' => ω' a = some (.ft o xs kvs)) ω
    | _ => False)
  | _ => False
def biKeys (e : BE K) : BI K where
  t := fun W => iKeys (tLk (e.t W))
  w := fun ρ ω Φ Ψ => e.w ρ ω (fun x ω1 => keysW x ω1 Φ) Ψ
  ok := fun W ρ z σ R Φ Ψ h o r q qx => by
    refine e.ok W ρ z σ _ _ Ψ h o r (fun v z1 d t1 r1 h1 => ?_) qx
    unfold keysW at h1
    split at h1
    · rename_i a
      cases r1
      split at h1
      · rename_i kvs hc
        obtain ⟨_, xs, g1, g2⟩ := t1.ok.cell _ _ hc
        refine .inl ⟨_, _, rfl, g1, trivial, fun ob => ⟨_, ob, rfl, .inl ⟨xs, upd_same, ?_⟩⟩⟩
        have t := t1.ok.put (o := .frz ob (.dK xs)) (c' := .fk ob xs kvs) hc ⟨upd_same, g2⟩
        exact q _ _ _ _ (t1.trans t) (it_keys _ _ ob xs kvs) (h1 ob xs)
      · rename_i kvs hc
        obtain ⟨_, xs, g1, g2⟩ := t1.ok.cell _ _ hc
        refine .inl ⟨_, _, rfl, g1, trivial, fun ob => ⟨_, ob, rfl, .inr ⟨xs, upd_same, ?_⟩⟩⟩
        have t := t1.ok.put (o := .frz ob (.dT xs)) (c' := .ft ob xs kvs) hc ⟨upd_same, g2⟩
        exact q _ _ _ _ (t1.trans t) (it_keysT _ _ ob xs kvs) (h1 ob xs)
      · rename_i ob xs kvs hc
        obtain ⟨_, g1, g2⟩ := t1.ok.cell _ _ hc
        exact .inr ⟨_, ob, rfl, .inl ⟨xs, g1, q _ z1 _ _ t1 (it_keys _ _ ob xs kvs) h1⟩⟩
      · rename_i ob xs kvs hc
        obtain ⟨_, g1, g2⟩ := t1.ok.cell _ _ hc
        exact .inr ⟨_, ob, rfl, .inr ⟨xs, g1, q _ z1 _ _ t1 (it_keysT _ _ ob xs kvs) h1⟩⟩
      · exact h1.elim
    · exact h1.elim
end
theorem hu_of {A : Around} {k : Nat} (hr : Room k A) : A.units + 1 < cLine := by have := hr.un; omega
section
variable {X : Cx} {W : WX} {a b c e : Expr} {es : List Expr} {O Y V' : BE X.K} {As : BA X.K} {pos p pos' : Pos}
theorem P_dget (hu : X.A.units + 1 < cLine) (ho : PE X a (O.t W)) (hi : PE X b (Y.t W)) (hs : NoSl b := by exact fun _ _ => rfl) : PE X (.Subscript a b pos) ((bDget O Y).t W) := pe_dgetS hu ho hi hs
theorem S_dput (hu : X.A.units + 1 < cLine) (ho : PE X a (O.t W)) (hi : PE X b (Y.t W)) (hv : PE X c (V'.t W)) (hs : swapsWith c (some (.Subscript a b pos')) pos.line X.env = pure false := by rfl) : PS X (.Assign [.Subscript a b pos'] c pos) ((bsDput O Y V').t W) := ps_dput hu ho hi hv hs
theorem S_dputA {x1 : _} (hu : X.A.units + 1 < cLine) (ho : PE X a (O.t W)) (hi : PA X es (As.t W)) (hv : PE X c (V'.t W)) (hs : swapsWith c (some (.Subscript a (.Tuple es x1 p) pos')) pos.line X.env = pure false := by rfl) : PS X (.Assign [.Subscript a (.Tuple es x1 p) pos'] c pos) ((bsDputA O As V').t W) := ps_dput hu ho (pe_tup hi) hv hs
theorem I_keys {tg : Expr} (h : PE X e (O.t W)) : PI X tg e ((biKeys O).t W) := pi_keys (pe_lk h)
end
end
end T
namespace T
open PySem PySem.Spec PyProof.Rows L2 PySem.Froz
section
def SetT (P : Program) (w : World) (h : Heap) (a : Addr) (l : List Str) : Prop := ∃ D : SD, h.get? a = some (sObj "set" D) ∧ TxOk P w D l ∧ Ris D.2.2.place.toList ∧ (w.params.followText "set-order" = true ∨ D.2.2.led = true)
section
variable {P : Program} {w : World} {A : Around} {E : Value → Shared → Prop} {s : Shared}
theorem SetT.at {h h' : Heap} {a : Addr} {l : List Str} (S : SetT P w h a l) (k : ∀ o, h.get? a = some o → h'.get? a = some o) : SetT P w h' a l := by
  obtain ⟨D, ho, r⟩ := S
  exact ⟨D, k _ ho, r⟩
end
theorem uq_mem {α : Type} [BEq α] [LawfulBEq α] (xs : List α) : ∀ k : α, k ∈ uq xs ↔ k ∈ xs := by
  induction xs using snoc_ind with
  | h0 => exact fun _ => Iff.rfl
  | h1 xs x ih =>
    intro k
    rw [uq_snoc, List.mem_append, List.mem_singleton]
    unfold uqStep
    split
    · rename_i c
      obtain ⟨y, h1, h2⟩ := List.any_eq_true.mp c
      rw [ih k]
      exact ⟨.inl, fun h => h.elim id fun e => by rw [e, ← eq_of_beq h2]; exact (ih y).mp h1⟩
    · rw [List.mem_append, List.mem_singleton, ih k]
theorem cs_sOf (s : List Nat) : cs (sOf s) = s := by unfold cs sOf; simp
theorem sOf_cs2 (x : Str) : sOf (cs x) = x := sOf_cs x
section
variable {K : Fg}
def rLtD (K : Fg) : R2 := fun x y H Q => ∃ p q, Dp K H x p ∧ Dp K H y q ∧ PySem.W.alike p q = true ∧ p ≠ .none ∧ p.depth ≤ 64 ∧ Q (.bl (PySem.W.dataLt p q)) H
theorem op_ltD {X : Cx} (hu : X.A.units + 64 < cLine) : OpR X (compareOp .Lt) (rLtD X.K) := by
  intro pins s σ H x y v u Q I rx ry h
  obtain ⟨p, q, h1, h2, al, hn, dp, hq⟩ := h
  obtain ⟨as, ra⟩ := Dp.reads I _ _ _ h1 rx
  obtain ⟨bs, rb⟩ := Dp.reads I _ _ _ h2 ry
  exact PySem.W.lt_data ra rb al hn (by have := Nat.min_le_left p.depth q.depth; omega) ⟨.bl _, H, I, rfl, hq⟩
def oLtDD : O2 K where
  r := rLtD K
  w := fun x y ω Φ => KeyOk x ∧ eqD y = true ∧ alk x y = true ∧ Φ (.bl (dlt x y)) ω
  ok := fun z x y d e Q Φ h k r1 r2 q => ⟨_, _, rep_dp k r1 h.1.1, rep_dp k r2 h.2.1, h.2.2.1, toPy_non h.1.2.2 h.1.1, by rw [toPy_d]; exact h.1.2.1, q _ z _ k.to (.bl _) h.2.2.2⟩
theorem op_oLtDD {X : Cx} {k : Nat} (hr : Room k X.A) : OpR X (compareOp .Lt) (oLtDD (K := X.K)).r := op_ltD (hq_of hr)
end
section
variable {K : Fg} {ρ : En} {ω : Om} {Φ : D → Om → Prop} {Ψ : Exn → Om → Prop} {A B O Y V' : BE K} {As : BA K} {k : KD} {FI : List D → (Om → Prop) → Om → Prop} {a : Addr} {d : D} {kvs : List (Key × D)} {kvt : List (List Key × D)}
theorem x_ltDD {x y : D} : (oLtDD : O2 K).w x y ω Φ = (KeyOk x ∧ eqD y = true ∧ alk x y = true ∧ Φ (.bl (dlt x y)) ω) := rfl
theorem x_din {neg : Bool} : (bDin neg Y O).w ρ ω Φ Ψ = Y.w ρ ω (fun y ω1 => O.w ρ ω1 (fun x ω2 => dgetW x y ω2 fun r => Φ (.bl (if neg then !r.isSome else r.isSome)) ω2) Ψ) Ψ := rfl
theorem x_dputA : (bsDputA O As V').w ρ ω k = V'.w ρ ω (fun d ω1 => O.w ρ ω1 (fun x ω2 => As.w ρ ω2 (fun ys ω3 => dputT x ys d ω3 fun ω4 => k.nx ρ ω4) fun x ω1 => k.xc x ρ ω1) fun x ω1 => k.xc x ρ ω1) fun x ω1 => k.xc x ρ ω1 := rfl
theorem x_biKeys : (biKeys A).w ρ ω FI Ψ = A.w ρ ω (fun x ω1 => keysW x ω1 FI) Ψ := rfl
theorem x_dgetT {ys : List D} {F : Option D → Prop} : dgetW (.ref a) (.tup ys) ω F = optW (dtOf (ω a)) fun kvs => optW (keysD ys) fun k => F (valD kvs k) := rfl
theorem x_dputT {ys : List D} {d : D} {F : Om → Prop} : dputT (.ref a) ys d ω F = cT (ω a) fun kvs => optW (keysD ys) fun k => NeedW (kvs.length < 16777216 ∧ ys.length < 100) (F (ω.set a (.dt (putD kvs k d)))) := rfl
end
end
section
section
variable {prog : Program} {w : World} {A : Around} {E : Value → Shared → Prop} {s : Shared}
set_option maxHeartbeats 3200000 in
theorem call_set_listI {l : Addr} {items : Array Value} {xs : List Int} {Q : Value → Shared → Prop} (hh : A.handled = none) (hl : s.heap.IsList l items) (hi : IntsAre items.toList xs) (hb : xs.length + 1 < scanBound)
    (h : ∀ (h' : Heap) (tk c : Nat), SetR w h' s.heap.objs.size (fun j => decide (j ∈ xs)) c → c ≤ xs.length → (∀ b o, b < s.heap.objs.size → s.heap.get? b = some o → h'.get? b = some o) → Q (.ref s.heap.objs.size) { s with heap := h', toks := tk }) :
    wpAny (model prog w) A (call (.type "set") [.ref l]) Q E s := by
  obtain ⟨c, tl, hmro⟩ := PySem.F.called_set.mro
  have f1 := PySem.F.called_set.made
  have f2 := PySem.F.called_set.sub
  have f3 := PySem.F.called_set.notType
  have f4 := PySem.F.called_set.canCreate
  have f5 := PySem.F.typeCall_set_1 (.ref l)
  refine wpAny_call (codeAny_of_tree ?_)
  show wpAny _ _ (callAny (.type "set") _) _ _ _
  refine wpAny_pure ⟨Code.quiet_builtin _ (by decide +kernel), codeAny_builtin PySem.F.entry_type_call ?_⟩
  rw [Around.under_plain (weight_type_call_type "set" [.ref l] []) rfl]
  repeat (any_goals (first | assumption | wp_step))
  refine codeAny_mono (code_set_led1 (.ref l) (E := E) (Q₁ := fun obj s₁ => obj = .ref s.heap.objs.size ∧ s₁ = { s with heap := s.heap.push { cls := .type "set", dict := none, data := .set #[] 0 (.fresh 0 0 (!w.params.followText "set-order")) } }) ⟨rfl, rfl⟩) fun r s₁ hr => ?_
  match r, hr with
  | .error e, hr => exact hr
  | .ok .next, hr => exact hr.elim
  | .ok .brk, hr => exact hr.elim
  | .ok .cont, hr => exact hr.elim
  | .ok (.ret obj), hr =>
  obtain ⟨rfl, rfl⟩ := hr
  generalize eled : (!w.params.followText "set-order") = led
  have hS : (s.heap.push { cls := .type "set", dict := none, data := .set #[] 0 (.fresh 0 0 led) }).get? s.heap.objs.size = some { cls := .type "set", dict := none, data := .set #[] 0 (.fresh 0 0 led) } := Heap.get?_push_size _ rfl
  have hT : Shared.TypeIs { s with heap := s.heap.push { cls := .type "set", dict := none, data := .set #[] 0 (.fresh 0 0 led) } } (.ref s.heap.objs.size) "set" := ⟨_, hS, rfl⟩
  have f6 := PySem.F.called_set.init.lookup
  have f7 := PySem.F.called_set.init.bind (.ref s.heap.objs.size)
  repeat (any_goals (first | assumption | wp_step))
  refine codeAny_mono (codeAny_call_builtin (R := wants (fun r s₂ => r = .none ∧ ∃ h' tk c, s₂ = { s with heap := h', toks := tk } ∧ SetR w h' s.heap.objs.size (fun j => decide (j ∈ xs)) c ∧ c ≤ xs.length ∧
      (∀ b o, b < s.heap.objs.size → s.heap.get? b = some o → h'.get? b = some o)) E) PySem.F.called_set.init.plain PySem.F.entry_set_init (check_set_init_1 hT ?_)) fun r₂ s₂ hr₂ => ?_
  · obtain ⟨ol, hol, hcl, nl, hdl⟩ := hl
    obtain ⟨ocls, odict, odata, oslots⟩ := ol
    dsimp only at hcl hdl
    subst hcl hdl
    have hol' : (s.heap.push { cls := .type "set", dict := none, data := .set #[] 0 (.fresh 0 0 led) }).get? l = some { cls := .type "list", dict := odict, data := .seq items nl, slots := oslots } := Heap.get?_push_of_some _ hol
    have g1 := PySem.F.sub_list_set
    have g2 := PySem.F.sub_list_frozenset
    have g3 : (Value.type "list" == Value.type "dict") = false := by decide
    have hl1 : (s.heap.push { cls := .type "set", dict := none, data := .set #[] 0 (.fresh 0 0 led) }).IsList l items := ⟨_, hol', rfl, nl, rfl⟩
    unfold Builtin.«set.__init__» noKeywords Builtin.Frozenset.updateFrom
    generalize hPI : pyIter = PI
    wp_walk
    subst hPI
    have lS : l < s.heap.objs.size := Heap.lt_size hol
    have szP : (s.heap.push { cls := .type "set", dict := none, data := .set #[] 0 (.fresh 0 0 led) }).objs.size = s.heap.objs.size + 1 := Heap.size_push _ _
    refine wpAny_pyIter_list hl1 (wpAny_bind (wpAny_runValue ?_))
    have hsz : items.size = xs.length := by rw [← IntsAre.length hi, Array.length_toList]
    have hval : ∀ (i : Nat) (v : Value), items[i]? = some v → ∃ k t, xs[i]? = some k ∧ v = .int k t := fun i v hv => by
      have il : i < xs.length := by rw [← hsz]; exact (Array.getElem?_eq_some_iff.mp hv).1
      obtain ⟨t, e⟩ := IntsAre.int_at hi i v (by rw [Array.getElem?_toList]; exact hv)
      exact ⟨xs[i], t, List.getElem?_eq_getElem il, by rw [e, List.getD_eq_getElem?_getD, List.getElem?_eq_getElem il]; rfl⟩
    refine set_update_ints ((Walks.list (by simp [hh]) _ l (by rw [szP]; exact Nat.ne_of_lt (Nat.lt_succ_of_lt lS)) items).toS) s.heap.objs.size (by rw [szP]; simp only [List.mem_cons, List.not_mem_nil, or_false, not_or]; exact ⟨Nat.ne_of_lt (Nat.lt_succ_self _), Nat.ne_of_gt lS⟩) xs hsz hb hval (items.size - 0) 0 _ (by omega) (Nat.zero_le _)
      ⟨⟨_, Heap.get?_push_size _ rfl, rfl, rfl⟩, hl1.push _⟩ ?_ fun s' c' hm hc' hS' => ?_
    · refine ⟨0, Nat.le_refl 0, setR_new_at ?_⟩
      rw [eled]
      exact Heap.get?_push_of_some _ hS
    · obtain ⟨h', g', d', tk', os'⟩ := s'
      obtain rfl : g' = s.gens := hm.gens
      obtain rfl : d' = s.drawn := hm.drawn
      obtain rfl : os' = s.os := hm.os
      show wpAny _ _ _ _ _ _
      refine wpAny_pure ?_
      show wpAny _ _ (ret Value.none) _ _ _
      refine wpAny_pure ⟨rfl, h', tk', c', rfl, hS', by omega, fun b o hb' e => hm.heap b o ?_ (Heap.get?_push_of_some _ (Heap.get?_push_of_some _ e))⟩
      intro hm'
      rw [szP] at hm'
      simp only [List.mem_cons, List.not_mem_nil, or_false] at hm'
      rcases hm' with hm' | hm'
      · exact absurd hm' (Nat.ne_of_lt hb')
      · exact absurd hm' (Nat.ne_of_lt (Nat.lt_succ_of_lt hb'))
  · match r₂, hr₂ with
    | .error e, hr₂ => exact hr₂
    | .ok .next, hr₂ => exact hr₂.elim
    | .ok .brk, hr₂ => exact hr₂.elim
    | .ok .cont, hr₂ => exact hr₂.elim
    | .ok (.ret r), hr₂ =>
      obtain ⟨rfl, h', tk, c', rfl, hS', hc', hk'⟩ := hr₂
      repeat (any_goals (first | assumption | wp_step))
      exact h _ _ _ hS' hc' hk'
end
section
variable {X : Cx}
def tSortSetI (K : Fg) (ta : TE) : TE := fun σ H Q => ta σ H fun x H1 => ∃ (l : Addr) (ns : List Int), x = V.ref l ∧ SqL K H1 l (ns.map V.int) ∧ ns.length < 64 ∧
  ∀ (us : List Int) (p : Addr), (us.Pairwise fun x y => x < y) → (∀ k, k ∈ us ↔ k ∈ ns) → us.length ≤ ns.length → H1 p = none → Q (.ref p) (upd H1 p (.lst (us.map V.int)))
theorem vals_of_ints : ∀ {vs : List Value} {ns : List Int}, IntsAre vs ns → Vals (ns.map V.int) vs
  | _, _, .nil => .nil
  | _, _, .cons _ t r => .cons ⟨t, rfl⟩ (vals_of_ints r)
theorem sort_endI {pins : List (Addr × Obj)} {σ : L2.St} {H1 : Hp} {s : Shared} {a : Addr} {S : Int → Bool} {n : Nat} {Q : VK} {E : Value → Shared → Prop} (hc : X.calm = true) (I : Inv X pins σ H1 s) (R : SetR X.w s.heap a S n) (h64 : n < 64)
    (q : ∀ (us : List Int) (p : Addr), (us.Pairwise fun x y => x < y) → (∀ k, k ∈ us ↔ S k = true) → us.length = n → H1 p = none → Q (.ref p) (upd H1 p (.lst (us.map V.int)))) :
    wpAny (model X.prog X.w) X.A (call (.builtin "sorted") [.ref a]) (EP X pins σ Q) E s := by
  refine sorted_set R (I.ok.hd hc) h64 fun s' p out c us k g o hp hg' hi pw mem len => ?_
  have hlen : (us.map V.int).length ≤ sizeLine := by rw [List.length_map, sizeLine_eq]; omega
  have hn : H1 p = none := I.hok.fresh hp
  have J : Inv X pins σ (upd H1 p (.lst (us.map V.int))) { s with heap := s'.heap, gens := s'.gens, drawn := s'.drawn, toks := s'.toks } :=
    I.call (ch := []) (Un.laid k hp hn) (I.hok.laid k hp ⟨hlen, out.toList, c, vals_of_ints hi, hg'⟩) (by rw [g]; exact I.bare) (fun _ z => nomatch z)
  have e : s' = { s with heap := s'.heap, gens := s'.gens, drawn := s'.drawn, toks := s'.toks } := by
    cases s'
    cases s
    cases o
    rfl
  rw [e]
  exact ⟨.ref p, _, J, rfl, q us p pw mem len hn⟩
theorem pe_sortSetI {a : Expr} {ta : TE} {p p2 q pos : Pos} (hc : X.calm = true) (hg : Gl X "sorted") (hm : X.mg "sorted" = none) (hg2 : Gl X "set") (hm2 : X.mg "set" = none) (ha : PE X a ta)
    (na : starEach [a] X.env = (false, eval a X.env) :: starEach [] X.env := by rfl) : PE X (.Call (.Name "sorted" p) [.Call (.Name "set" p2) [a] [] q] [] pos) (tSortSetI X.K ta) := by
  refine ⟨fun pins s σ H Q I h => Call_ (ld_blt I hg hm boot_sorted_ (callWith_builtin1 (args_cons (Call_ (ld_blt I hg2 hm2 boot_set (callWith_type1 (args_cons (thn (ha.run pins s σ H _ I h) fun v s1 ⟨x, H1, I1, r1, q1⟩ => args_nil ?_) na) na rfl))) rfl) rfl rfl))⟩
  obtain ⟨l, ns, rfl, hq, h1, q1⟩ := q1
  cases r1
  obtain ⟨its, r, pl, hz⟩ := I1.list hq
  refine call_set_listI (I1.ok.hd hc) pl.isList (xs := ns) (by simpa using r.ints) (by unfold scanBound; omega) fun h' tk c hS hcl hk => args_nil ?_
  have I2 : Inv X pins σ H1 { s1 with heap := h', toks := tk } := I1.kept fun b o e => hk b o (Heap.lt_size e) e
  exact sort_endI hc I2 hS (by omega) fun us p pw mem len hn => q1 us p pw (fun k => by rw [mem k]; exact decide_eq_true_iff) (by omega) hn
end
section
variable {K : Fg}
def bSortSetI (own : Bool) (a : BE K) : BE K where
  t := fun W => tSortSetI K (a.t W)
  w := fun ρ ω Φ Ψ => a.w ρ ω (fun x ω1 => optW (lstOf ω1 x) fun us => optW (intsOf us) fun ns => NeedW (ns.length < 64) (∀ l : List Int, (l.Pairwise fun x y => x < y) → (∀ k, k ∈ l ↔ k ∈ ns) → l.length ≤ ns.length →
    if own = true then ∀ p, ω1 p = none → Φ (.ref p) (ω1.set p (.lst (l.map .int))) else Φ (.lst (l.map .int)) ω1)) Ψ
  ok := fun W ρ z σ Q Φ Ψ h k r q qx => by
    refine a.ok W ρ z σ _ _ Ψ h k r (fun x z1 d t1 r1 h1 => ?_) qx
    obtain ⟨us, h2, h1⟩ := optW_iff.mp h1
    obtain ⟨ns, h3, h1⟩ := optW_iff.mp h1
    obtain ⟨l, ys, rfl, ha, ry⟩ := lstOf_seq t1.ok r1 h2
    rw [intsOf_eq h3] at ry
    rw [RepL.ints ry] at ha
    refine ⟨l, ns, rfl, ha, h1.1, fun m p pw mem len hp => ?_⟩
    have h3 := h1.2 m pw mem len
    cases own with
    | true =>
      rw [if_pos rfl] at h3
      have l := t1.ok.lay (o := .lst (m.map V.int)) (c := .lst (m.map .int)) hp ⟨_, upd_same, .of_ints m⟩
      exact q (.ref p) _ (.ref p) (t1.trans l) (.ref p) (h3 p (t1.ok.free hp).2)
    | false =>
      rw [if_neg Bool.false_ne_true] at h3
      have l := t1.ok.add (o := .lst (m.map V.int)) hp
      exact q (.ref p) _ (.lst (m.map .int)) (t1.trans l) (.lst upd_same (.of_ints m)) h3
end
section
variable {X : Cx} {W : WX} {a : Expr} {A : BE X.K} {p p2 q pos : Pos}
theorem P_sortSetI {own : Bool} (hm : X.mg "sorted" = none) (hm2 : X.mg "set" = none) (ha : PE X a (A.t W)) (hg : Gl X "sorted" := by rfl) (hg2 : Gl X "set" := by rfl) (hc : X.calm = true := by rfl)
    (na : starEach [a] X.env = (false, eval a X.env) :: starEach [] X.env := by rfl) : PE X (.Call (.Name "sorted" p) [.Call (.Name "set" p2) [a] [] q] [] pos) ((bSortSetI own A).t W) := pe_sortSetI hc hg hm hg2 hm2 ha na
end
section
variable {K : Fg} {ρ : En} {ω : Om} {Φ : D → Om → Prop} {Ψ : Exn → Om → Prop} {A : BE K}
theorem x_sortSetIF : (bSortSetI false A).w ρ ω Φ Ψ = A.w ρ ω (fun x ω1 => optW (lstOf ω1 x) fun us => optW (intsOf us) fun ns => NeedW (ns.length < 64) (∀ l : List Int, (l.Pairwise fun x y => x < y) → (∀ k, k ∈ l ↔ k ∈ ns) → l.length ≤ ns.length → Φ (.lst (l.map .int)) ω1)) Ψ := rfl
end
end
end T
namespace T
open PySem L2
section
abbrev TakesK (n : Bool) (X : Cx) (W : WX) : Prop := match n with
  | true => L2N.Takes X W
  | false => L2.Takes X W
abbrev CXk (n : Bool) (P : Program) (w : World) : CXT := match n with
  | true => L2N.CX P w
  | false => L2.CX P w
section
variable {X : Cx} {W : WX} {n m : Bool}
theorem sky_imp {B h : Heap} {l : List Env} {a L : Addr} {Z Y : Obj → Prop} (z : ∀ o, Z o → Y o) (k : Sky B l a Z L h) : Sky B l a Y L h := by
  rcases k with ⟨k1, k2, k3, oe, vs, k4, k5, k6⟩ | k | ⟨k1, k2, k3, k4⟩
  · exact .inl ⟨k1, k2, k3, oe, vs, k4, z _ k5, k6⟩
  · exact .inr (.inl (L2H.flyingZ_imp z k))
  · exact .inr (.inr ⟨k1, k2, k3, L2H.tracedZ_imp z k4⟩)
theorem takesN (t : TakesK n X W) : L2N.Takes X W := by
  cases n with
  | true => exact t
  | false =>
    rintro u s2 ⟨a, B, sI, pins, σ, H, cls, d, e1, e2, e3, e4, e5, e6⟩
    exact t u s2 ⟨a, B, sI, pins, σ, H, cls, d, e1, e2, e3, e4, sky_imp (fun _ k => k.zc) e5, e6⟩
theorem takesK0 : TakesK n X (fun _ _ _ _ => False) := by
  cases n with
  | true => exact takesN (n := false) takes0
  | false => exact takes0
theorem passK (hnm : n = true → m = true) (tk : TakesK n X W) (σ : L2.St) : PassesAt (CXk m X.prog X.w) X σ (WE W σ) := by
  cases m with
  | true => exact L2N.passAt (takesN tk) σ
  | false =>
    cases n with
    | true => exact absurd (hnm rfl) Bool.false_ne_true
    | false => exact L2.passAt tk σ
end
abbrev WPX := List D → Om → (D → Om → Prop) → (Exn → Om → Prop) → Prop
def SpPX (K : Fg) (W : WPX) : Sp := fun vs H Q E => ∃ (z : Z) (ds : List D) (Φ : D → Om → Prop) (Ψ : Exn → Om → Prop), z.h = H ∧ z.Ok K ∧ RepL K z.d vs ds ∧ W ds z.o Φ Ψ ∧
  (∀ v z2 d, To K z z2 → Rep K z2.d v d → Φ d z2.o → Q v z2.h) ∧ ∀ x cls d z2, To K z z2 → RepX K z2 cls d x → Ψ x z2.o → E cls d z2.h
section
variable {P : Program} {w : World} {K : Fg} {mg : Str → Option Value} {base : Heap}
def OkPX (n : Bool) (P : Program) (w : World) (K : Fg) (mg : Str → Option Value) (base : Heap) (k : Nat) (p : Str × Option Str) (ps : List Str) (W : WPX) : Prop :=
  ∃ fd, FnOk P w K mg base (CXk n P w) k (He.fAd K p) fd ps (SpPX K W) ∧ Binds K fd ps [] ∧ ∃ oc od osl, K.lookup (He.fAd K p) = some ⟨oc, od, .func fd, osl⟩
def bCallX (W : WPX) (a : BA K) : BE K where
  t := fun V => tCallS (SpPX K W) (WE V) (a.t V)
  w := fun ρ ω Φ Ψ => a.w ρ ω (fun xs ω1 => W xs ω1 Φ Ψ) Ψ
  ok := fun V ρ z σ Q Φ Ψ h ok r q qx => by
    refine a.ok V ρ z σ _ _ Ψ h ok r (fun xs z1 es t1 r1 h1 => ?_) qx
    exact ⟨z1, es, Φ, Ψ, rfl, t1.ok, r1, h1, fun v z2 d t2 => q v z2 d (t1.trans t2), fun x cls d z2 t2 => qx x cls d z2 (t1.trans t2)⟩
theorem x_callX {W : WPX} {a : BA K} {ρ : En} {ω : Om} {Φ : D → Om → Prop} {Ψ : Exn → Om → Prop} : (bCallX W a).w ρ ω Φ Ψ = a.w ρ ω (fun xs ω1 => W xs ω1 Φ Ψ) Ψ := rfl
end
end
section
abbrev ECls := List (Str × Option Str)
def subX (p q : Str) : Bool := p == q || q == ("TierError" : Str)
def excTail : List Value := [.type "ValueError", .type "Exception", .type "BaseException", .type "object"]
def recB (K : Fg) (C : Addr) : Bool := match K.lookup C with
  | some ⟨.type "type", _, .cls cd, sl⟩ => (match cd.mro, sl.toList with
    | .ref C' :: bm, [_, _, _, _, some (.builtin n), _] => C' == C && n == "ValueError.__new__" && !cd.hasDel && cd.hasDict && PySem.HandSPX.refsVE bm
    | _, _ => false)
  | _ => false
def cls1B (K : Fg) (C : Addr) : Bool :=
  PySem.W.subIn K (.ref C) (.type "BaseException") == some true && PySem.W.typeIn K (.ref C) == some (.type "type") && PySem.W.keepIn K (.ref C) && PySem.W.hasDictIn K C &&
  PySem.W.findIn K (.ref C) "__getattribute__" == some (some (.builtin "BaseException.__getattribute__")) && PySem.W.findIn K (.ref C) "__getattr__" == some none &&
  PySem.W.findIn K (.ref C) "__class__" == some (some (.builtin "object.__class__")) && PySem.W.specialIn K (.builtin "object.__class__") "__get__" == some (some (.builtin "getset_descriptor.__get__")) &&
  PySem.W.takesIn K (.builtin "object.__class__") == some true && PySem.W.mroIn K C (.type "object") == some true && PySem.W.kitOne K (.ref C) (.type "ValueError") == some true
structure Cls1 (K : Fg) (C : Addr) : Prop where
  sb : PySem.W.subIn K (.ref C) (.type "BaseException") = some true
  ty : PySem.W.typeIn K (.ref C) = some (.type "type")
  kp : PySem.W.keepIn K (.ref C) = true
  hd : PySem.W.hasDictIn K C = true
  ga : PySem.W.findIn K (.ref C) "__getattribute__" = some (some (.builtin "BaseException.__getattribute__"))
  gg : PySem.W.findIn K (.ref C) "__getattr__" = some none
  cl : PySem.W.findIn K (.ref C) "__class__" = some (some (.builtin "object.__class__"))
  cg : PySem.W.specialIn K (.builtin "object.__class__") "__get__" = some (some (.builtin "getset_descriptor.__get__"))
  ct : PySem.W.takesIn K (.builtin "object.__class__") = some true
  mo : PySem.W.mroIn K C (.type "object") = some true
  ve : PySem.W.kitOne K (.ref C) (.type "ValueError") = some true
theorem cls1_of {K : Fg} {C : Addr} (h : cls1B K C = true) : Cls1 K C := by
  unfold cls1B at h
  simp only [Bool.and_eq_true, beq_iff_eq] at h
  obtain ⟨⟨⟨⟨⟨⟨⟨⟨⟨⟨h1, h2⟩, h3⟩, h4⟩, h5⟩, h6⟩, h7⟩, h8⟩, h9⟩, h10⟩, h11⟩ := h
  exact ⟨h1, h2, h3, h4, h5, h6, h7, h8, h9, h10, h11⟩
def fldB (K : Fg) (C : Addr) (c f : Str) : Bool :=
  recB K C && PySem.W.findIn K (.ref C) "__setattr__" == some (some (.builtin "object.__setattr__")) && PySem.W.findIn K (.ref C) "__init__" == some (some (.ref (He.fAd K (c, some "__init__")))) &&
  PySem.W.typeIn K (.ref (He.fAd K (c, some "__init__"))) == some (.type "function") && PySem.W.findIn K (.ref C) f == some none
def ownB (K : Fg) (p : Str × Option Str) : Bool := match p.2 with
  | none => PySem.W.excIn K (He.ga K p.1) excTail "ValueError.__new__"
  | some f => fldB K (He.ga K p.1) p.1 f
def pairB (K : Fg) (p q : Str × Option Str) : Bool :=
  PySem.W.exmOne K (.ref (He.ga K p.1)) (.ref (He.ga K q.1)) == some (subX p.1 q.1) && PySem.W.kitOne K (.ref (He.ga K p.1)) (.ref (He.ga K q.1)) == some (subX p.1 q.1)
def topB (K : Fg) : Bool := PySem.W.readsIn K (He.ga K "TierError") (.type "type") && PySem.W.specialIn K (.ref (He.ga K "TierError")) "__getattribute__" == some (some (.builtin "type.__getattribute__")) &&
  (match PySem.W.findCls K (.ref (He.ga K "TierError")) (.type "type") "__init__" with
    | some (.val v) => v == .builtin "ValueError.__init__"
    | _ => false)
def excB (l : ECls) (K : Fg) : Bool := topB K && l.all fun p => cls1B K (He.ga K p.1) && ownB K p && l.all (pairB K p)
structure XFs (K : Fg) (l : ECls) : Prop where
  all : excB l K = true
section
variable {K : Fg} {l : ECls} (F : XFs K l) {c d : Str} {f g : Option Str}
include F
theorem XFs.one (h : (c, f) ∈ l) : cls1B K (He.ga K c) = true ∧ ownB K (c, f) = true ∧ l.all (pairB K (c, f)) = true := by
  have := F.all
  unfold excB at this
  rw [Bool.and_eq_true, List.all_eq_true] at this
  have := this.2 _ h
  rw [Bool.and_eq_true, Bool.and_eq_true] at this
  exact ⟨this.1.1, this.1.2, this.2⟩
theorem XFs.c1 (h : (c, f) ∈ l) : Cls1 K (He.ga K c) := cls1_of (F.one h).1
theorem XFs.pair (h : (c, f) ∈ l) (h2 : (d, g) ∈ l) : PySem.W.exmOne K (.ref (He.ga K c)) (.ref (He.ga K d)) = some (subX c d) ∧ PySem.W.kitOne K (.ref (He.ga K c)) (.ref (He.ga K d)) = some (subX c d) := by
  have := List.all_eq_true.mp (F.one h).2.2 _ h2
  unfold pairB at this
  simpa only [Bool.and_eq_true, beq_iff_eq] using this
theorem XFs.own (h : (c, none) ∈ l) : PySem.W.excIn K (He.ga K c) excTail "ValueError.__new__" = true := (F.one h).2.1
theorem XFs.fld {f : Str} (h : (c, some f) ∈ l) : OexC K (He.ga K c) ∧ PySem.W.findIn K (.ref (He.ga K c)) "__init__" = some (some (.ref (He.fAd K (c, some "__init__")))) ∧
    PySem.W.typeIn K (.ref (He.fAd K (c, some "__init__"))) = some (.type "function") ∧ PySem.W.findIn K (.ref (He.ga K c)) f = some none := by
  have h1 := (F.one h).2.1
  have h1 : fldB K (He.ga K c) c f = true := h1
  have C := F.c1 h
  unfold fldB at h1
  simp only [Bool.and_eq_true, beq_iff_eq] at h1
  obtain ⟨⟨⟨⟨h1, h2⟩, h3⟩, h4⟩, h5⟩ := h1
  refine ⟨⟨?_, h2, C.sb, C.ty, C.kp⟩, h3, h4, h5⟩
  unfold recB at h1
  split at h1
  · rename_i dd cd sl ho
    split at h1
    · rename_i C' bm k0 k1 k2 k3 n k5 hm hs
      simp only [Bool.and_eq_true, beq_iff_eq, Bool.not_eq_true'] at h1
      obtain ⟨⟨⟨⟨rfl, rfl⟩, hdel⟩, hdc⟩, hbm⟩ := h1
      obtain ⟨nm, bs, mro, ns, qn, hd, sn, sub, ab, col, del⟩ := cd
      dsimp only at hm hdel hdc
      subst hm hdel hdc
      obtain ⟨sl⟩ := sl
      dsimp only at hs
      subst hs
      exact ⟨nm, qn, ns, bs, bm, sn, sub, ab, col, dd, k0, k1, k2, k3, k5, ho, hbm⟩
    · cases h1
  · cases h1
theorem XFs.top : PySem.W.readsIn K (He.ga K "TierError") (.type "type") = true ∧ PySem.W.specialIn K (.ref (He.ga K "TierError")) "__getattribute__" = some (some (.builtin "type.__getattribute__")) ∧
    PySem.W.findCls K (.ref (He.ga K "TierError")) (.type "type") "__init__" = some (.val (.builtin "ValueError.__init__")) := by
  have := F.all
  unfold excB topB at this
  simp only [Bool.and_eq_true, beq_iff_eq] at this
  obtain ⟨⟨⟨h1, h2⟩, h3⟩, _⟩ := this
  refine ⟨h1, h2, ?_⟩
  split at h3
  · rename_i v e
    rw [e, beq_iff_eq.mp h3]
  · cases h3
end
section
variable {K : Fg}
def bsRaise (c : Str) : BS K where
  t := fun V _ σ H => V (.ref (He.ga K c)) none σ H
  w := fun ρ ω k => k.xc ⟨c, none⟩ ρ ω
  ok := fun V ρ z σ D' k h ok r hk => hk.xc _ _ _ _ _ _ ok.to r ⟨rfl, rfl⟩ h
theorem x_raise {c : Str} {ρ : En} {ω : Om} {k : KD} : (bsRaise c : BS K).w ρ ω k = k.xc ⟨c, none⟩ ρ ω := rfl
end
def spInit (K : Fg) (C : Addr) (f : Str) : Sp := fun vs H Q _ => ∃ (a : Addr) (v : V), vs = [.ref a, v] ∧ H a = some (exo a C none) ∧ ∀ dx, H dx = none → dx ≠ a → Q .non (upd (upd H dx (exd dx [(f, v)])) a (exo a C (some dx)))
theorem spInit_end {H : Hp} {a C dx : Addr} {f : Str} {v : V} (ha : H a = none) (hd : dx ≠ a) (hx : H dx = none) :
    upd (del (upd (upd (upd H a (exo a C none)) dx (exd dx [(f, v)])) a (exo a C (some dx))) a) dx (.xd [(f, v)]) = upd H dx (.xd [(f, v)]) := by
  funext b
  by_cases h1 : b = dx
  · subst h1; rw [upd_same, upd_same]
  · rw [upd_ne h1, upd_ne h1]
    by_cases h2 : b = a
    · subst h2; rw [del_same, ha]
    · rw [del_ne h2, upd_ne h2, upd_ne h1, upd_ne h2]
section
variable {K : Fg}
def bsRaiseF (c f : Str) (e : BE K) : BS K where
  t := fun V _ σ H => tMkO (He.ga K c) (spInit K (He.ga K c) f) [] (tCons (e.t V) tNil) σ H fun cls d H' => V cls d σ H'
  w := fun ρ ω k => e.w ρ ω (fun d ω1 => k.xc ⟨c, some (f, d)⟩ ρ ω1) fun x ω1 => k.xc x ρ ω1
  ok := fun V ρ z σ D' k h ok r hk => by
    refine e.ok V ρ z σ _ _ _ h ok r (fun v z1 d t1 r1 h1 => ?_) (hk.qx r)
    refine ⟨by simp, fun a ha => ⟨a, v, rfl, upd_same, fun dx hdx hne => ⟨rfl, dx, [(f, v)], upd_same, ?_, ?_, ?_⟩⟩⟩
    · rw [upd_ne hne, upd_same]
    · rw [upd_ne hne] at hdx; exact hdx
    · rw [upd_ne hne] at hdx
      rw [spInit_end ha hne hdx]
      have t2 := t1.ok.add (o := .xd [(f, v)]) hdx
      have t3 := t1.trans t2
      refine hk.xc ⟨c, some (f, d)⟩ _ _ σ ρ _ t3 (r.mono t3.ex) ⟨rfl, dx, v, rfl, upd_same, r1.mono t2.ex⟩ h1
theorem x_raiseF {c f : Str} {e : BE K} {ρ : En} {ω : Om} {k : KD} : (bsRaiseF c f e).w ρ ω k = e.w ρ ω (fun d ω1 => k.xc ⟨c, some (f, d)⟩ ρ ω1) fun x ω1 => k.xc x ρ ω1 := rfl
end
end
end T
namespace T
open PySem PyProof.Rows L2
section
abbrev HdT := Value × Option Nat × (Addr → Value → Option Addr → TS)
def endT (D : Ends) (i : Option Nat) : Ends := match i with
  | none => D
  | some i => { nx := fun σ H => D.nx (σ.set i none) H, rt := D.rt, bk := fun σ H => D.bk (σ.set i none) H, ct := fun σ H => D.ct (σ.set i none) H }
def putT (σ : L2.St) (i : Option Nat) (a : Addr) : L2.St := match i with
  | none => σ
  | some i => σ.set i (some (.ref a))
end
section
inductive QC where
  | one (c : Str) | many (cs : List Str) | ve
def ansQ (c : Str) : QC → Bool
  | .one d => subX c d
  | .many ds => ds.any (subX c)
  | .ve => true
abbrev inL (l : ECls) (c : Str) : Bool := l.any (·.1 == c)
def IsQ (K : Fg) (H : Hp) : QC → V → Prop
  | .one d, y => y = .ref (He.ga K d)
  | .many ds, y => ∃ t, y = .ref t ∧ H t = some (.tup (ds.map fun d => .ref (He.ga K d)))
  | .ve, y => y = .ty "ValueError"
def rIsX (K : Fg) (l : ECls) (q : QC) : List V → Hp → VK → Prop := fun xs H Q => ∃ (a : Addr) (c : Str) (dd : Option Addr) (n : Bool) (y : V), xs = [.ref a, y] ∧ inL l c = true ∧ H a = some (ExT K a c dd n) ∧ (∀ d, dd = some d → ∃ fs, H d = some (.xd fs)) ∧ IsQ K H q y ∧ Q (.bl (ansQ c q)) H
def tXfT (K : Fg) (l : ECls) (f : Str) (te : TE) : TE := fun σ H Q => te σ H fun x H1 => ∃ (a : Addr) (c : Str) (dd : Addr) (n : Bool) (v : V), x = .ref a ∧ (c, some f) ∈ l ∧ H1 a = some (ExT K a c (some dd) n) ∧ H1 dd = some (.xd [(f, v)]) ∧ Q v H1
section
variable {K : Fg}
def tQ (K : Fg) : QC → TE
  | .one d => tC (.ref (He.ga K d))
  | .many ds => tTup (ds.foldr (fun d t => tCons (tC (.ref (He.ga K d))) t) tNil)
  | .ve => tC (.ty "ValueError")
theorem tQs_go {K : Fg} {σ : L2.St} {H : Hp} : ∀ (ds : List Str) (P : List V → Hp → Prop), P (ds.map fun d => .ref (He.ga K d)) H → (ds.foldr (fun d t => tCons (tC (.ref (He.ga K d))) t) tNil) σ H P
  | [], _, h => h
  | d :: ds, P, h => tQs_go ds _ h
def bIsX (l : ECls) (q : QC) (hq : (match q with | .many ds => decide (ds.length ≤ 100) | _ => true) = true) (A : BE K) : BE K where
  t := fun V => tCB (rIsX K l q) (tCons (A.t V) (tCons (tQ K q) tNil))
  w := fun ρ ω Φ Ψ => A.w ρ ω (fun x ω1 => match x with
    | .exn _ _ c _ _ _ => inL l c = true ∧ Φ (.bl (ansQ c q)) ω1
    | _ => False) Ψ
  ok := fun V ρ z σ Q Φ Ψ h ok r k qx => by
    refine A.ok V ρ z σ _ _ Ψ h ok r (fun v z1 d t1 r1 h1 => ?_) qx
    split at h1
    · rename_i a dd c f d n
      obtain ⟨hc, h1⟩ := h1
      have fd : ∃ dd', v = .ref a ∧ z1.h a = some (ExT K a c dd' n) ∧ ∀ e, dd' = some e → ∃ fs, z1.h e = some (.xd fs) := by
        cases r1 with
        | exn0 h => exact ⟨none, rfl, t1.ok.fz _ _ h, fun _ e => nomatch e⟩
        | exn1 h h2 r => exact ⟨_, rfl, t1.ok.fz _ _ h, fun e he => by cases he; exact ⟨_, t1.ok.fz _ _ h2⟩⟩
      obtain ⟨dd', rfl, ha, hd⟩ := fd
      cases q with
      | one d' => exact ⟨a, c, dd', n, _, rfl, hc, ha, hd, rfl, k _ z1 _ t1 (.bl _) h1⟩
      | ve => exact ⟨a, c, dd', n, _, rfl, hc, ha, hd, rfl, k _ z1 _ t1 (.bl _) h1⟩
      | many ds =>
        refine tQs_go ds _ ⟨?_, fun p hp => ?_⟩
        · rw [List.length_map, sizeLine_eq]
          have : ds.length ≤ 100 := of_decide_eq_true hq
          omega
        · have t2 := t1.ok.add (o := .tup (ds.map fun d => .ref (He.ga K d))) hp
          have na : a ≠ p := ne_of_none ha hp
          exact ⟨a, c, dd', n, _, rfl, hc, (upd_ne na).trans ha, fun e he => let ⟨fs, hf⟩ := hd e he; ⟨fs, (upd_ne (ne_of_none hf hp)).trans hf⟩, ⟨p, rfl, upd_same⟩, k _ _ _ (t1.trans t2) (.bl _) h1⟩
    · exact h1.elim
def bXf (l : ECls) (f : Str) (A : BE K) : BE K where
  t := fun V => tXfT K l f (A.t V)
  w := fun ρ ω Φ Ψ => A.w ρ ω (fun x ω1 => match x with
    | .exn _ (some _) c g d _ => g = f ∧ (c, some f) ∈ l ∧ Φ d ω1
    | _ => False) Ψ
  ok := fun V ρ z σ Q Φ Ψ h ok r k qx => by
    refine A.ok V ρ z σ _ _ Ψ h ok r (fun v z1 d t1 r1 h1 => ?_) qx
    split at h1
    · rename_i a dd c g d n
      obtain ⟨rfl, hc, h1⟩ := h1
      cases r1 with
      | exn1 h h2 r => exact ⟨a, c, dd, n, _, rfl, hc, t1.ok.fz _ _ h, t1.ok.fz _ _ h2, k _ z1 _ t1 r h1⟩
    · exact h1.elim
theorem x_isX {l : ECls} {q : QC} {hq : (match q with | .many ds => decide (ds.length ≤ 100) | _ => true) = true} {A : BE K} {ρ : En} {ω : Om} {Φ : D → Om → Prop} {Ψ : Exn → Om → Prop} : (bIsX l q hq A).w ρ ω Φ Ψ = A.w ρ ω (fun x ω1 => match x with
    | .exn _ _ c _ _ _ => inL l c = true ∧ Φ (.bl (ansQ c q)) ω1
    | _ => False) Ψ := rfl
theorem x_xf {l : ECls} {f : Str} {A : BE K} {ρ : En} {ω : Om} {Φ : D → Om → Prop} {Ψ : Exn → Om → Prop} : (bXf l f A).w ρ ω Φ Ψ = A.w ρ ω (fun x ω1 => match x with
    | .exn _ (some _) c g d _ => g = f ∧ (c, some f) ∈ l ∧ Φ d ω1
    | _ => False) Ψ := rfl
end
end
section
def exD (a dd : Addr) (n : Bool) (x : Exn) : D := match x.f with
  | none => .exn a none x.c "" .non n
  | some (f, d) => .exn a (some dd) x.c f d n
def slotD (ρ : En) (i : Option Nat) (d : D) : En := match i with
  | none => ρ
  | some i => ρ.set i (some d)
def delD (ρ : En) (i : Option Nat) : En := match i with
  | none => ρ
  | some i => ρ.set i none
def endD (k : KD) (i : Option Nat) : KD := { nx := fun ρ ω => k.nx (delD ρ i) ω, rt := k.rt, bk := fun ρ ω => k.bk (delD ρ i) ω, ct := fun ρ ω => k.ct (delD ρ i) ω, xc := fun _ _ _ => False }
abbrev HdD (K : Fg) := Str × Option Nat × BS K
def wHds {K : Fg} (n : Bool) (k : KD) : List (HdD K) → Exn → En → Om → Prop
  | [], x, ρ, ω => k.xc x ρ ω
  | (c, i, B) :: r, x, ρ, ω => if subX x.c c = true then ∀ a dd, B.w (slotD ρ i (exD a dd n x)) ω (endD k i) else wHds n k r x ρ ω
def wHdsT (K : Fg) (n : Bool) (Wout : WX) (D : Ends) (c0 : Str) : List (HdD K) → WX
  | [] => Wout
  | (c, i, B) :: r => fun cls d σ H => if subX c0 c = true then ∀ a, H a = none → B.t W0 (endT D i) (putT σ i a) (upd H a (ExT K a c0 d n)) else wHdsT K n Wout D c0 r cls d σ H
def wTryD (K : Fg) (l : ECls) (n : Bool) (Wout : WX) (D : Ends) (hs : List (HdD K)) : WX := fun cls d σ H => ∃ c0, inL l c0 = true ∧ cls = .ref (He.ga K c0) ∧ wHdsT K n Wout D c0 hs cls d σ H
section
variable {K : Fg}
theorem kOk_end {z : Z} {k : KD} {D' : Ends} {V : WX} {i : Option Nat} (hk : KOk K V z k D') : KOk K W0 z (endD k i) (endT D' i) := by
  cases i with
  | none => exact ⟨hk.nx, hk.rt, hk.bk, hk.ct, fun _ _ _ _ _ _ _ _ _ h => h.elim⟩
  | some i => exact ⟨fun σ2 ρ2 z2 t r h => hk.nx _ _ _ t (r.del i none) h, hk.rt, fun σ2 ρ2 z2 t r h => hk.bk _ _ _ t (r.del i none) h, fun σ2 ρ2 z2 t r h => hk.ct _ _ _ t (r.del i none) h, fun _ _ _ _ _ _ _ _ _ h => h.elim⟩
theorem repE_put {z : Z} {σ : L2.St} {ρ : En} {i : Option Nat} {a : Addr} {d : D} (r : RepE K z.d σ ρ) (h : Rep K z.d (.ref a) d) : RepE K z.d (putT σ i a) (slotD ρ i d) := by
  cases i with
  | none => exact r
  | some i => exact r.set i h
theorem wHds_ok {n : Bool} {k : KD} {D' : Ends} {V : WX} {x : Exn} {cls : Value} {d : Option Addr} {σ : L2.St} {ρ : En} {z : Z} (hk : KOk K V z k D') (ok : z.Ok K) (r : RepE K z.d σ ρ) (rx : RepX K z cls d x) : ∀ {hs : List (HdD K)}, wHds n k hs x ρ z.o → wHdsT K n V D' x.c hs cls d σ z.h
  | [], h => hk.xc _ _ _ _ _ _ ok.to r rx h
  | (c, i, B) :: hs, h => by
    unfold wHds at h
    unfold wHdsT
    by_cases q : subX x.c c = true
    · rw [if_pos q] at h ⊢
      intro a na
      have t := ok.add (o := ExT K a x.c d n) na (by intro ps e; unfold ExT at e; cases e)
      obtain ⟨xc, xf⟩ := x
      have key : ∃ dd, Rep K (upd z.d a (ExT K a xc d n)) (.ref a) (exD a dd n ⟨xc, xf⟩) := by
        obtain ⟨_, r2⟩ := rx
        cases xf with
        | none =>
          have r2 : d = none := r2
          subst r2
          exact ⟨0, .exn0 upd_same⟩
        | some p =>
          obtain ⟨a', v, rfl, h1, h2⟩ := r2
          exact ⟨a', .exn1 upd_same (t.ex _ _ h1) (h2.mono t.ex)⟩
      obtain ⟨dd, hr⟩ := key
      exact B.ok W0 _ ⟨upd z.d a (ExT K a xc d n), upd z.h a (ExT K a xc d n), z.o, z.t⟩ _ _ _ (h a dd) t.ok (repE_put (r.mono t.ex) hr) (kOk_end (hk.to t))
    · rw [if_neg q] at h ⊢
      exact wHds_ok hk ok r rx h
def bsTry (l : ECls) (n : Bool) (S : BS K) (hs : List (HdD K)) : BS K where
  t := fun V D σ H => S.t (wTryD K l n V D hs) D σ H
  w := fun ρ ω k => S.w ρ ω { k with xc := fun x ρ1 ω1 => inL l x.c = true ∧ wHds n k hs x ρ1 ω1 }
  ok := fun V ρ z σ D' k h ok r hk => by
    refine S.ok _ ρ z σ D' _ h ok r ⟨hk.nx, hk.rt, hk.bk, hk.ct, fun x cls d σ2 ρ2 z2 t r2 rx h2 => ?_⟩
    exact ⟨x.c, h2.1, rx.1, wHds_ok (hk.to t) t.ok r2 rx h2.2⟩
end
end
end T
namespace T
open PySem L2
section
def isXW (l : ECls) (q : QC) (x : D) (ω : Om) (Φ : D → Om → Prop) : Prop := match x with
  | .exn _ _ c _ _ _ => inL l c = true ∧ Φ (.bl (ansQ c q)) ω
  | _ => False
def xfW (l : ECls) (f : Str) (x : D) (ω : Om) (Φ : D → Om → Prop) : Prop := match x with
  | .exn _ (some _) c g d _ => g = f ∧ (c, some f) ∈ l ∧ Φ d ω
  | _ => False
section
variable {K : Fg} {l : ECls} {q : QC} {A : BE K} {ρ : En} {ω : Om} {Φ : D → Om → Prop} {Ψ : Exn → Om → Prop} {n : Bool} {k : KD}
theorem x_isE {hq : (match q with | .many ds => decide (ds.length ≤ 100) | _ => true) = true} : (bIsX l q hq A).w ρ ω Φ Ψ = A.w ρ ω (fun x ω1 => isXW l q x ω1 Φ) Ψ := by
  rw [x_isX]; congr 1
theorem x_fE {f : Str} : (bXf l f A).w ρ ω Φ Ψ = A.w ρ ω (fun x ω1 => xfW l f x ω1 Φ) Ψ := by
  rw [x_xf]; congr 1
theorem x_isXW {a : Addr} {dd : Option Addr} {c f : Str} {d : D} (h : inL l c = true) : isXW l q (.exn a dd c f d n) ω Φ = Φ (.bl (ansQ c q)) ω := by
  show (inL l c = true ∧ _) = _
  simp [h]
theorem x_xfW {a dd : Addr} {c f : Str} {d : D} (h : (c, some f) ∈ l) : xfW l f (.exn a (some dd) c f d n) ω Φ = Φ d ω := by
  show (f = f ∧ (c, some f) ∈ l ∧ _) = _
  simp [h]
theorem x_exD0 {a dd : Addr} {c : Str} : exD a dd n ⟨c, none⟩ = .exn a none c "" .non n := rfl
theorem x_exD1 {a dd : Addr} {c f : Str} {d : D} : exD a dd n ⟨c, some (f, d)⟩ = .exn a (some dd) c f d n := rfl
theorem x_hds0 {x : Exn} : wHds n k ([] : List (HdD K)) x ρ ω = k.xc x ρ ω := rfl
theorem x_hdsY {c : Str} {i : Option Nat} {B : BS K} {r : List (HdD K)} {x : Exn} (h : subX x.c c = true) : wHds n k ((c, i, B) :: r) x ρ ω = ∀ a dd, B.w (slotD ρ i (exD a dd n x)) ω (endD k i) := by
  show (if subX x.c c = true then _ else _) = _
  rw [if_pos h]
theorem x_hdsN {c : Str} {i : Option Nat} {B : BS K} {r : List (HdD K)} {x : Exn} (h : subX x.c c = false) : wHds n k ((c, i, B) :: r) x ρ ω = wHds n k r x ρ ω := by
  show (if subX x.c c = true then _ else _) = _
  rw [if_neg (by rw [h]; decide)]
theorem x_slotN {d : D} : slotD ρ none d = ρ := rfl
theorem x_slotS {d : D} {i : Nat} : slotD ρ (some i) d = ρ.set i (some d) := rfl
theorem x_delN : delD ρ none = ρ := rfl
theorem x_delS {i : Nat} : delD ρ (some i) = ρ.set i none := rfl
theorem x_tryI {S : BS K} {hs : List (HdD K)} : (bsTry l n S hs).w ρ ω k = S.w ρ ω ⟨k.nx, k.rt, k.bk, k.ct, fun x ρ1 ω1 => inL l x.c = true ∧ wHds n k hs x ρ1 ω1⟩ := rfl
end
end
end T
namespace T
open PySem PySem.Spec PyProof.Rows L2
section
def rNeE (K : Fg) : R2 := fun x y H Q => ∃ a b xs, x = .ref a ∧ y = .ref b ∧ ((SqT K H a xs ∧ SqT K H b []) ∨ (SqL K H a xs ∧ SqL K H b [])) ∧ Q (.bl (!xs.isEmpty)) H
section
variable {K : Fg}
def oNeE : O2 K where
  r := rNeE K
  w := fun x y ω Φ => match y with
    | .tup [] => (match x with
      | .tup ds => Φ (.bl (!ds.isEmpty)) ω
      | _ => False)
    | .lst [] => ∃ ds, lstOf ω x = some ds ∧ Φ (.bl (!ds.isEmpty)) ω
    | _ => False
  ok := fun z x y d e Q Φ h k r1 r2 q => by
    split at h
    · split at h
      · obtain ⟨a, xs, rfl, ha, rx⟩ := rep_tup r1
        obtain ⟨b, ys, rfl, hb, ry⟩ := rep_tup r2
        cases ry
        refine ⟨a, b, xs, rfl, rfl, .inl ⟨k.fz.sqt ha, k.fz.sqt hb⟩, ?_⟩
        rw [rx.nil_iff]
        exact q _ z _ k.to (.bl _) h
      · exact h.elim
    · obtain ⟨ds, h1, h2⟩ := h
      obtain ⟨a, xs, rfl, ha, rx⟩ := lst_of k r1 h1
      obtain ⟨b, ys, rfl, hb, ry⟩ := rep_lst r2
      cases ry
      refine ⟨a, b, xs, rfl, rfl, .inr ⟨SqL.of ha, SqL.of (k.fz _ _ hb)⟩, ?_⟩
      rw [rx.nil_iff]
      exact q _ z _ k.to (.bl _) h2
    · exact h.elim
theorem x_neE0 {ds : List D} {ω : Om} {Φ : D → Om → Prop} : (oNeE : O2 K).w (.tup ds) (.tup []) ω Φ = Φ (.bl (!ds.isEmpty)) ω := rfl
theorem x_neE1 {x : D} {ω : Om} {Φ : D → Om → Prop} : (oNeE : O2 K).w x (.lst []) ω Φ = optW (lstOf ω x) fun ds => Φ (.bl (!ds.isEmpty)) ω := propext optW_iff.symm
end
end
end T
namespace T
open PySem PyProof.Rows L2
section
abbrev CCl := Str × List Str × List (Str × Str)
def methB (K : Fg) (C : Addr) (m d : Str) : Bool :=
  PySem.W.findIn K (.ref C) m == some (some (.ref (He.fAd K (d, some m)))) && PySem.W.isFn K (.ref (He.fAd K (d, some m))) && PySem.W.keepIn K (.ref (He.fAd K (d, some m)))
def clsB (K : Fg) (c : CCl) : Bool :=
  PySem.W.plainGet K (He.ga K c.1) Str.empty && PySem.W.hasDictIn K (He.ga K c.1) && PySem.W.plainOver K (He.ga K c.1) && PySem.W.findIn K (.ref (He.ga K c.1)) "__setattr__" == some (some (.builtin "object.__setattr__")) &&
  PySem.W.makesIn K (He.ga K c.1) && PySem.W.keepIn K (.ref (He.ga K c.1)) && c.2.1.all (fun f => PySem.W.findIn K (.ref (He.ga K c.1)) f == some none) && c.2.2.all (fun m => methB K (He.ga K c.1) m.1 m.2)
def clssB (l : List CCl) (K : Fg) : Bool := l.all (clsB K)
structure XCl (K : Fg) (l : List CCl) : Prop where
  all : clssB l K = true
def hasF (l : List CCl) (c f : Str) : Bool := l.any fun x => x.1 == c && x.2.1.contains f
def hasM (l : List CCl) (c m d : Str) : Bool := l.any fun x => x.1 == c && x.2.2.contains (m, d)
section
variable {K : Fg} {l : List CCl} {c f m d : Str}
theorem XCl.one (F : XCl K l) {x : CCl} (h : x ∈ l) : clsB K x = true := List.all_eq_true.mp F.all x h
theorem clsB_cls {x : CCl} (h : clsB K x = true) : Cls K (He.ga K x.1) := by
  unfold clsB at h
  simp only [Bool.and_eq_true, beq_iff_eq] at h
  obtain ⟨⟨⟨⟨⟨⟨⟨h1, h2⟩, h3⟩, h4⟩, h5⟩, h6⟩, h7⟩, h8⟩ := h
  exact ⟨h1, h2, h3, h4⟩
theorem XCl.fld (F : XCl K l) (h : hasF l c f = true) : Cls K (He.ga K c) ∧ NoAttr K (He.ga K c) f := by
  unfold hasF at h
  obtain ⟨x, hx, h⟩ := List.any_eq_true.mp h
  rw [Bool.and_eq_true, beq_iff_eq, List.contains_iff_mem] at h
  obtain ⟨rfl, hf⟩ := h
  have k := F.one hx
  refine ⟨clsB_cls k, ?_⟩
  unfold clsB at k
  simp only [Bool.and_eq_true, beq_iff_eq] at k
  obtain ⟨⟨⟨⟨⟨⟨⟨h1, h2⟩, h3⟩, h4⟩, h5⟩, h6⟩, h7⟩, h8⟩ := k
  have := List.all_eq_true.mp h7 f hf
  exact beq_iff_eq.mp this
theorem XCl.meth (F : XCl K l) (h : hasM l c m d = true) : Cls K (He.ga K c) ∧ Meth K (He.ga K c) m (He.fAd K (d, some m)) := by
  unfold hasM at h
  obtain ⟨x, hx, h⟩ := List.any_eq_true.mp h
  rw [Bool.and_eq_true, beq_iff_eq, List.contains_iff_mem] at h
  obtain ⟨rfl, hm⟩ := h
  have k := F.one hx
  refine ⟨clsB_cls k, ?_⟩
  unfold clsB at k
  simp only [Bool.and_eq_true, beq_iff_eq] at k
  obtain ⟨⟨⟨⟨⟨⟨⟨h1, h2⟩, h3⟩, h4⟩, h5⟩, h6⟩, h7⟩, h8⟩ := k
  have := List.all_eq_true.mp h8 _ hm
  unfold methB at this
  simp only [Bool.and_eq_true, beq_iff_eq] at this
  exact ⟨this.1.1, this.1.2, this.2⟩
theorem XCl.making (F : XCl K l) (h : hasM l c "__init__" c = true) : Mk K (He.ga K c) (He.fAd K (c, some "__init__")) := by
  have hm := (F.meth h).2
  unfold hasM at h
  obtain ⟨x, hx, h⟩ := List.any_eq_true.mp h
  rw [Bool.and_eq_true, beq_iff_eq, List.contains_iff_mem] at h
  obtain ⟨rfl, _⟩ := h
  have k := F.one hx
  unfold clsB at k
  simp only [Bool.and_eq_true, beq_iff_eq] at k
  obtain ⟨⟨⟨⟨⟨⟨⟨h1, h2⟩, h3⟩, h4⟩, h5⟩, h6⟩, h7⟩, h8⟩ := k
  exact ⟨h5, hm.at_, hm.fn, h6⟩
end
def putFD (f : Str) (v : D) : List (Str × D) → List (Str × D)
  | [] => [(f, v)]
  | (g, x) :: r => if g = f then (g, v) :: r else (g, x) :: putFD f v r
section
variable {K : Fg} {H : Hp}
theorem repK_putF {f : Str} {v : V} {d : D} (rv : Rep K H v d) : ∀ {xs : List (Str × V)} {ds : List (Str × D)}, RepK K H xs ds → RepK K H (putF f v xs) (putFD f d ds)
  | _, _, .nil => .cons ⟨rfl, rv⟩ .nil
  | _, _, .cons (a := p) (b := q) (l₁ := xs) (l₂ := ds) h r => by
    obtain ⟨g, x⟩ := p
    obtain ⟨g', x'⟩ := q
    obtain ⟨h1, h2⟩ := h
    have h1 : g = g' := h1
    subst h1
    show RepK K H (if g = f then (g, v) :: xs else (g, x) :: putF f v xs) (if g = f then (g, d) :: ds else (g, x') :: putFD f d ds)
    by_cases e : g = f
    · rw [if_pos e, if_pos e]; exact .cons ⟨rfl, rv⟩ r
    · rw [if_neg e, if_neg e]; exact .cons ⟨rfl, h2⟩ (repK_putF rv r)
theorem repK_look (f : Str) : ∀ {xs : List (Str × V)} {ds : List (Str × D)}, RepK K H xs ds → (xs.lookup f = none ∧ ds.lookup f = none) ∨ ∃ v d, xs.lookup f = some v ∧ ds.lookup f = some d ∧ Rep K H v d
  | _, _, .nil => .inl ⟨rfl, rfl⟩
  | _, _, .cons (a := p) (b := q) h r => by
    obtain ⟨g, x⟩ := p
    obtain ⟨g', x'⟩ := q
    obtain ⟨h1, h2⟩ := h
    have h1 : g = g' := h1
    subst h1
    by_cases e : f = g
    · have hb : (f == g) = true := beq_iff_eq.mpr e
      exact .inr ⟨x, x', by simp only [List.lookup, hb], by simp only [List.lookup, hb], h2⟩
    · have hb : (f == g) = false := beq_eq_false_iff_ne.mpr e
      simp only [List.lookup, hb]
      exact repK_look f r
def insW (o : Option Cell) (F : Str → List (Str × D) → Prop) : Prop := match o with
  | some (.ins c fs) => F c fs
  | _ => False
theorem insW_iff {o : Option Cell} {F : Str → List (Str × D) → Prop} : insW o F ↔ ∃ c fs, o = some (.ins c fs) ∧ F c fs := by
  unfold insW
  constructor
  · split
    · intro h; exact ⟨_, _, rfl, h⟩
    · exact False.elim
  · rintro ⟨c, fs, rfl, h⟩; exact h
def refW (d : D) (F : Addr → Prop) : Prop := match d with
  | .ref a => F a
  | _ => False
theorem refW_iff {d : D} {F : Addr → Prop} : refW d F ↔ ∃ a, d = .ref a ∧ F a := by
  unfold refW
  constructor
  · split
    · intro h; exact ⟨_, rfl, h⟩
    · exact False.elim
  · rintro ⟨a, rfl, h⟩; exact h
def tFldC (K : Fg) (l : List CCl) (f : Str) (ta : TE) : TE := fun σ H Q => ta σ H fun x H1 => ∃ a c dx fs v, x = .ref a ∧ H1 a = some (.ins (He.ga K c) dx fs) ∧ hasF l c f = true ∧ fs.lookup f = some v ∧ Q v H1
def bFld (l : List CCl) (f : Str) (A : BE K) : BE K where
  t := fun W => tFldC K l f (A.t W)
  w := fun ρ ω Φ Ψ => A.w ρ ω (fun x ω1 => refW x fun a => insW (ω1 a) fun c fs => hasF l c f = true ∧ optW (fs.lookup f) fun d => Φ d ω1) Ψ
  ok := fun W ρ z σ Q Φ Ψ h k r q qx => by
    refine A.ok W ρ z σ _ _ Ψ h k r (fun v z1 x t1 r1 h1 => ?_) qx
    obtain ⟨a, rfl, h1⟩ := refW_iff.mp h1
    obtain ⟨c, fs, e, hf, h1⟩ := insW_iff.mp h1
    obtain ⟨d, ed, h1⟩ := optW_iff.mp h1
    cases r1
    obtain ⟨_, dx, vs, g1, g2⟩ := t1.ok.cell _ _ e
    rcases repK_look f g2 with ⟨_, z0⟩ | ⟨v, d', e1, e2, rv⟩
    · rw [ed] at z0; cases z0
    · rw [ed] at e2
      cases e2
      exact ⟨a, c, dx, vs, v, rfl, g1, hf, e1, q v z1 d t1 rv h1⟩
def sFldC (K : Fg) (l : List CCl) (f : Str) (ta tv : TE) : TS := fun D σ H => tv σ H fun y H1 => ta σ H1 fun x H2 => ∃ a c dx fs, x = .ref a ∧ H2 a = some (.ins (He.ga K c) dx fs) ∧ hasF l c f = true ∧ fs.length < 1000 ∧
  D.nx σ (upd H2 a (.ins (He.ga K c) dx (putF f y fs)))
def bsFld (l : List CCl) (f : Str) (A V' : BE K) : BS K where
  t := fun W => sFldC K l f (A.t W) (V'.t W)
  w := fun ρ ω k => V'.w ρ ω (fun d ω1 => A.w ρ ω1 (fun x ω2 => refW x fun a => insW (ω2 a) fun c fs => hasF l c f = true ∧ fs.length < 1000 ∧ k.nx ρ (ω2.set a (.ins c (putFD f d fs)))) fun x ω1 => k.xc x ρ ω1) fun x ω1 => k.xc x ρ ω1
  ok := fun W ρ z σ D' k h ok r hk => by
    refine V'.ok W ρ z σ _ _ _ h ok r (fun vv z1 d t1 r1 h1 => ?_) (hk.qx r)
    refine A.ok W ρ z1 σ _ _ _ h1 t1.ok (r.mono t1.ex) (fun vx z2 x t2 r2 h2 => ?_) ((hk.to t1).qx (r.mono t1.ex))
    have t12 := t1.trans t2
    obtain ⟨a, rfl, h2⟩ := refW_iff.mp h2
    obtain ⟨c, fs, e, hf, hl, h2⟩ := insW_iff.mp h2
    cases r2
    obtain ⟨_, dx, vs, g1, g2⟩ := t2.ok.cell _ _ e
    have t := t2.ok.put (o := .ins (He.ga K c) dx (putF f vv vs)) (c' := .ins c (putFD f d fs)) e ⟨dx, _, upd_same, repK_putF (r1.mono t2.ex) g2⟩
    exact ⟨a, c, dx, vs, rfl, g1, hf, by rw [repK_len g2]; exact hl, hk.nx σ ρ _ (t12.trans t) (r.mono (t12.trans t).ex) h2⟩
structure MT (K : Fg) where
  c : Str
  W : WPX
  vs : List V
  ds : List D
  hd : ∀ H, RepL K H vs ds
def tMethC (K : Fg) (tab : List (MT K)) (m : Str) (E : L2.St → XK) (ta : TE) (t : TA) : TE := fun σ H Q => ta σ H fun x H1 => ∃ a e dx fs, e ∈ tab ∧ x = .ref a ∧ H1 a = some (.ins (He.ga K e.c) dx fs) ∧ fs.lookup m = none ∧
  t σ H1 fun vs H2 => SpPX K e.W (x :: (vs ++ e.vs)) H2 Q (E σ)
def tabW (tab : List (MT K)) (c : Str) (F : MT K → Prop) : Prop := match tab with
  | [] => False
  | e :: r => (c = e.c ∧ F e) ∨ (c ≠ e.c ∧ tabW r c F)
theorem tabW_ex : ∀ {tab : List (MT K)} {c : Str} {F : MT K → Prop}, tabW tab c F → ∃ e, e ∈ tab ∧ c = e.c ∧ F e
  | e :: r, c, F, .inl ⟨h1, h2⟩ => ⟨e, List.mem_cons_self, h1, h2⟩
  | e :: r, c, F, .inr ⟨_, h⟩ => let ⟨x, h1, h2⟩ := tabW_ex h; ⟨x, List.mem_cons_of_mem _ h1, h2⟩
def bMeth (tab : List (MT K)) (m : Str) (A : BE K) (As : BA K) : BE K where
  t := fun V => tMethC K tab m (WE V) (A.t V) (As.t V)
  w := fun ρ ω Φ Ψ => A.w ρ ω (fun x ω1 => refW x fun a => insW (ω1 a) fun c fs => fs.lookup m = none ∧ tabW tab c fun e => As.w ρ ω1 (fun ds ω2 => e.W (.ref a :: (ds ++ e.ds)) ω2 Φ Ψ) Ψ) Ψ
  ok := fun W ρ z σ Q Φ Ψ h k r q qx => by
    refine A.ok W ρ z σ _ _ Ψ h k r (fun v z1 x t1 r1 h1 => ?_) qx
    obtain ⟨a, rfl, h1⟩ := refW_iff.mp h1
    obtain ⟨c, fs, e, hl, h1⟩ := insW_iff.mp h1
    obtain ⟨en, he, rfl, h3⟩ := tabW_ex h1
    cases r1
    obtain ⟨_, dx, vs, g1, g2⟩ := t1.ok.cell _ _ e
    have hl2 : vs.lookup m = none := by
      rcases repK_look m g2 with ⟨z0, _⟩ | ⟨_, _, _, z0, _⟩
      · exact z0
      · rw [hl] at z0; cases z0
    refine ⟨a, en, dx, vs, he, rfl, g1, hl2, ?_⟩
    refine As.ok W ρ z1 σ _ _ Ψ h3 t1.ok (r.mono t1.ex) (fun xs z2 es t2 r2 h2 => ?_) fun x cls d z2 t2 => qx x cls d z2 (t1.trans t2)
    have t12 := t1.trans t2
    exact ⟨z2, _, Φ, Ψ, rfl, t2.ok, .cons (.ref a) (r2.append (en.hd _)), h2, fun v z3 d t3 => q v z3 d (t12.trans t3), fun x cls d z3 t3 => qx x cls d z3 (t12.trans t3)⟩
def bMake (c : Str) (W : WP) (vs : List V) (ds : List D) (hd : ∀ H, RepL K H vs ds) (As : BA K) : BE K where
  t := fun V => tMake (He.ga K c) (SpP K W) vs E0 (As.t V)
  w := fun ρ ω Φ Ψ => As.w ρ ω (fun xs ω1 => ∀ a, ω1 a = none → W (.ref a :: (xs ++ ds)) (ω1.set a (.ins c [])) fun d ω2 => d = .non ∧ Φ (.ref a) ω2) Ψ
  ok := fun V ρ z σ Q Φ Ψ h k r q qx => by
    refine As.ok V ρ z σ _ _ Ψ h k r (fun xs z1 es t1 r1 h1 => fun x dx hx hdx hne => ?_) qx
    have n1 : NT (.own x) := fun _ w => by cases w
    have t2 : To K z1 ⟨z1.d, upd z1.h dx (.own x), z1.o, z1.t⟩ := by
      obtain ⟨hd0, ho⟩ := t1.ok.free hdx
      refine ⟨⟨fun a u e => (upd_ne (ne_of_none (t1.ok.fz a u e) hdx)).trans (t1.ok.fz a u e), fun a c' e => ?_, tabs_new t1.ok.tab hdx, t1.ok.tk, t1.ok.nd⟩, .refl _, fun a u e _ _ => (upd_ne (ne_of_none e hdx)).trans e, upd_kept, rfl, fun a e => .inl e, fun a e => .inl e⟩
      obtain ⟨c1, c2⟩ := t1.ok.cell a c' e
      exact ⟨c1, c2.mono (.refl _) fun u e => (upd_ne (ne_of_none e hdx)).trans e⟩
    have hx2 : upd z1.h dx (.own x) x = none := (upd_ne (Ne.symm hne)).trans hx
    have t3 := t2.ok.lay (o := .ins (He.ga K c) dx []) (c := .ins c []) hx2 ⟨dx, [], upd_same, .nil⟩
    have t23 := t2.trans t3
    have ho : z1.o x = none := (t1.ok.free hx).2
    refine ⟨_, _, _, rfl, t3.ok, .cons (.ref x) ((r1.mono t23.ex).append (hd _)), h1 x ho, fun v z4 d t4 r4 h4 => ?_⟩
    obtain ⟨rfl, h4⟩ := h4
    cases r4
    exact ⟨rfl, q (.ref x) z4 (.ref x) (t1.trans (t23.trans t4)) (.ref x) h4⟩
end
section
variable {P : Program} {w : World} {K : Fg} {mg : Str → Option Value} {base : Heap}
def OkC (P : Program) (w : World) (K : Fg) (mg : Str → Option Value) (base : Heap) (k : Nat) (p : Str × Option Str) (ps : List Str) (dvs : List V) (W : WP) : Prop :=
  ∃ fd, FnOk P w K mg base CX0 k (He.fAd K p) fd ps (SpP K W) ∧ ∀ j, j ≤ dvs.length → ∃ us, Vals (dvs.drop j) us ∧ Binds K fd ps us
def OkM (n : Bool) (P : Program) (w : World) (K : Fg) (mg : Str → Option Value) (base : Heap) (k : Nat) (p : Str × Option Str) (ps : List Str) (dvs : List V) (W : WPX) : Prop :=
  ∃ fd, FnOk P w K mg base (CXk n P w) k (He.fAd K p) fd ps (SpPX K W) ∧ ∀ j, j ≤ dvs.length → ∃ us, Vals (dvs.drop j) us ∧ Binds K fd ps us
abbrev wX (W : WP) : WPX := fun ds ω Φ _ => W ds ω Φ
theorem fnOk_cx {CX CX' : CXT} {k : Nat} {f : Addr} {fd : FuncData} {ps : List Str} {sp sp' : Sp} (F : FnOk P w K mg base CX k f fd ps sp) (h : ∀ vs H Q E, sp' vs H Q E → sp vs H Q E) (hc : ∀ l H s E e s', CX l H s E e s' → CX' l H s E e s') : FnOk P w K mg base CX' k f fd ps sp' :=
  ⟨fun vs H Q E q => F.len vs H Q E (h _ _ _ _ q), fun A outer s H args us vs Q E hr he hb hv hs => codeAny_mono (F.run A outer s H args us vs Q E hr he hb hv (h _ _ _ _ hs)) fun r s' hq => by
    cases r with
    | error e => exact hc _ _ _ _ _ _ hq
    | ok fl => cases fl <;> exact hq⟩
theorem OkC.toM {n : Bool} {k : Nat} {p : Str × Option Str} {ps : List Str} {dvs : List V} {W : WP} (h : OkC P w K mg base k p ps dvs W) : OkM n P w K mg base k p ps dvs (wX W) := by
  obtain ⟨fd, F, b⟩ := h
  refine ⟨fd, fnOk_cx F (fun vs H Q E hs => ?_) (fun _ _ _ _ _ _ z => z.elim), b⟩
  obtain ⟨z, ds, Φ, Ψ, e, ok, r, hW, q, _⟩ := hs
  exact ⟨z, ds, Φ, e, ok, r, hW, q⟩
theorem OkP.toC {k : Nat} {p : Str × Option Str} {ps : List Str} {W : WP} (h : OkP P w K mg base k p ps W) : OkC P w K mg base k p ps [] W := by
  obtain ⟨fd, F, b, _⟩ := h
  exact ⟨fd, F, fun j _ => ⟨[], by rw [List.drop_nil]; exact .nil, b⟩⟩
theorem OkPX.toM {n : Bool} {k : Nat} {p : Str × Option Str} {ps : List Str} {W : WPX} (h : OkPX n P w K mg base k p ps W) : OkM n P w K mg base k p ps [] W := by
  obtain ⟨fd, F, b, _⟩ := h
  exact ⟨fd, F, fun j _ => ⟨[], by rw [List.drop_nil]; exact .nil, b⟩⟩
abbrev BindsJ (name qual : Str) (st : Stmt) (ps : List Str) (dvs : List V) : Prop := ∀ j, j ≤ dvs.length → ∀ (T : Addr) (kV doc pm : Value) (an : Option Addr) (cdv ct : Value) (us its : List Value), us.length = ps.length - (dvs.length - j) → its.length = dvs.length →
  ∃ k, bindArgs (PySem.W.fnOf name qual (defArgs st) (defBody st) (defScope st) (.ref T) kV doc pm an cdv ct) ⟨us, []⟩ = seqItems? (.ref T) >>= k ∧ k (some its.toArray) = pure (ps.zip (us ++ its.drop j))
theorem fnPC {name qual : Str} {st : Stmt} {p : Str × Option Str} {N ps : List Str} {k : Nat} {dvs : List V} (F : FnD K name qual st dvs p) (hd : dvs ≠ []) (hdl : dvs.length ≤ ps.length) (S : FnScope N ps (defScope st)) {W : WP} {n : Nat} (hn : N.length = n) (B : BS K)
    (hbi : BindsJ name qual st ps dvs)
    (len : ∀ ds ω Φ, W ds ω Φ → ds.length = ps.length)
    (hb : ∀ (f : Addr) (cdv : Value) (A : Around) (outer : List Env) (s : Shared) (H : Hp) (E : XK), Room k (A.deeper (PyProof.Rows.envOfC qual (defScope st) s.heap.objs.size f cdv)) → PSs (cxOf CX0 P w K mg base N qual (defScope st) f cdv A outer s H E).nox (defBody st) (B.t W0))
    (hw : ∀ ds ω Φ, W ds ω Φ → B.w (startD n ds) ω ⟨fun _ ω => Φ .non ω, Φ, fun _ _ => False, fun _ _ => False, fun _ _ _ => False⟩) : OkC P w K mg base (k + 1) p ps dvs W := by
  obtain ⟨fd, F⟩ := F
  refine ⟨fd, F.ok S (fun vs H Q E h => ?_) (fun cdv A outer s H vs Q E hr h => ⟨B.t W0, PSs.nox (hb _ cdv A outer s H E hr), ?_⟩), fun j hj => F.binds1 (ps.length - (dvs.length - j)) j hd (by omega) (hbi j hj)⟩
  · obtain ⟨z, ds, Φ, _, _, r, hW, _⟩ := h
    rw [r.length]
    exact len ds _ _ hW
  · obtain ⟨z, ds, Φ, rfl, ok, r, hW, q⟩ := h
    subst hn
    exact B.ok W0 (startD N.length ds) z (L2.start N vs) _ _ (hw ds z.o Φ hW) ok (rep_start r) ⟨fun σ2 ρ2 z2 t _ h2 => q .non z2 .non t .non h2, fun v d z2 t r2 h2 => q v z2 d t r2 h2, fun _ _ _ _ _ h => h.elim, fun _ _ _ _ _ h => h.elim, fun _ _ _ _ _ _ _ _ _ h => h.elim⟩
end
section
variable {X : Cx} {W : WX} {x m f : Str} {e o value : Expr} {es : List Expr} {A V' : BE X.K} {As : BA X.K} {p pos pos' apos : Pos} {n mm : Bool} {l : List CCl}
theorem P_fld (F : XCl X.K l) (he : PE X e (A.t W)) (hb : attributeBase e f X.env (eval e X.env) = eval e X.env := by rfl) : PE X (.Attribute e f pos) ((bFld l f A).t W) := by
  refine ⟨fun pins s σ H Q I h => ?_⟩
  refine attr_of hb (thn (he.run pins s σ H _ I h) fun u s1 ⟨x, H1, I1, rx, a, c, dx, fs, v, ex, ea, hf, lk, q⟩ => ?_)
  subst ex
  obtain rfl : u = Value.ref a := rx
  obtain ⟨c1, c2⟩ := F.fld hf
  exact getattr_ok I1 ea c1 c2 lk fun u' s2 I2 ru => ⟨v, H1, I2, ru, q⟩
theorem S_fld (F : XCl X.K l) (ha : PE X o (A.t W)) (hv : PE X value (V'.t W)) (hs : swapsWith value (some (.Attribute o f pos')) pos.line X.env = pure false := by rfl) : PS X (.Assign [.Attribute o f pos'] value pos) ((bsFld l f A V').t W) := by
  refine ⟨fun pins s σ H D I h => ?_⟩
  refine plainObj_wpAny_Assign_Attribute (thn (hv.run pins s σ H _ I h) fun u s1 ⟨y, H1, I1, ry, q⟩ => thn (ha.run pins s1 σ H1 _ I1 q) fun ov s2 ⟨x, H2, I2, rx, a, c, dx, fs, ex, ea, hf, lk, q2⟩ => ?_) hs
  subst ex
  obtain rfl : ov = Value.ref a := rx
  obtain ⟨c1, c2⟩ := F.fld hf
  exact setattr_ok I2 ea c1 c2 lk ry fun s3 I3 => ⟨σ, _, I3, q2⟩
inductive MOk (X : Cx) (l : List CCl) (n : Bool) (m : Str) : List (MT X.K) → Prop
  | nil : MOk X l n m []
  | cons {c d : Str} {W : WPX} {dvs : List V} {ds : List D} {j k : Nat} {ps : List Str} {mm : Bool} {hd : ∀ H, RepL X.K H (dvs.drop j) ds} {tab : List (MT X.K)} : hasM l c m d = true → OkM mm X.prog X.w X.K X.mg X.base k (d, some m) ps dvs W → Room k X.A → j ≤ dvs.length → (n = true → mm = true) → MOk X l n m tab → MOk X l n m (⟨c, W, dvs.drop j, ds, hd⟩ :: tab)
theorem MOk.at_ {tab : List (MT X.K)} (h : MOk X l n m tab) : ∀ e ∈ tab, ∃ (d : Str) (k : Nat) (ps : List Str) (fd : FuncData) (us : List Value) (mm : Bool), hasM l e.c m d = true ∧ FnOk X.prog X.w X.K X.mg X.base (CXk mm X.prog X.w) k (He.fAd X.K (d, some m)) fd ps (SpPX X.K e.W) ∧ Room k X.A ∧ Vals e.vs us ∧ Binds X.K fd ps us ∧ (n = true → mm = true) := by
  induction h with
  | nil => intro e h; cases h
  | cons h1 h2 h3 h4 h5 _ ih =>
    intro e he
    rcases List.mem_cons.mp he with rfl | he
    · obtain ⟨fd, F, b⟩ := h2
      obtain ⟨us, b1, b2⟩ := b _ h4
      exact ⟨_, _, _, fd, us, _, h1, F, h3, b1, b2, h5⟩
    · exact ih e he
theorem P_meth {tab : List (MT X.K)} {pl : Sem Bool} (F : XCl X.K l) (hm : MOk X l n m tab) (tk : TakesK n X W) (he : PE X o (A.t W)) (ha : PA X (e :: es) (As.t W))
    (hst : starEach (e :: es) X.env = (false, eval e X.env) :: starEach es X.env := by rfl) (hpl : (backTo pos (starEach es X.env)).any (·.1) = false := by rfl)
    (ht : eval (.Call (.Attribute o m apos) (e :: es) [] pos) X.env = (do
      let ov ← eval o X.env
      standAt apos.atName
      let (f, first) ← holding [ov] (getMethod ov m pl)
      callWith pos f first (backTo pos (starEach (e :: es) X.env)) (backToKw pos (keywordEach [] X.env))) := by rfl) :
    PE X (.Call (.Attribute o m apos) (e :: es) [] pos) ((bMeth tab m A As).t W) := by
  refine ⟨fun pins s σ H Q I h => ?_⟩
  refine PySem.W.methodCall_KW (pl := pl) (thn (he.run pins s σ H _ I h) fun u s1 ⟨x, H1, I1, rx, a, en, dx, fs, hen, ex, ea, lk, q⟩ => ?_) ht
  subst ex
  obtain rfl : u = Value.ref a := rx
  obtain ⟨d, k, ps, fd, us0, mm, g1, g2, g3, g4, g5, g6⟩ := hm.at_ en hen
  obtain ⟨c1, c2⟩ := F.meth g1
  refine getmeth_ok I1 ea c1 c2 lk ?_
  refine PySem.W.callWith_K (first := [.ref a]) (h₀ := X.base) I.ok.mod.kin c2.kp (thn (ha.run pos pins s1 σ H1 _ I1 q) fun us s2 ⟨vs, H2, I2, r, q2⟩ => ⟨I2.kIn, ?_⟩) hst hpl
  exact run_fnSD (us := .ref a :: us) (vs := .ref a :: vs) g2 g3 g5 g4 (passK g6 tk σ) I2 (.cons rfl r) q2
theorem P_meth0 {tab : List (MT X.K)} {pl : Sem Bool} (F : XCl X.K l) (hm : MOk X l n m tab) (tk : TakesK n X W) (he : PE X o (A.t W))
    (ht : eval (.Call (.Attribute o m apos) [] [] pos) X.env = (do
      let ov ← eval o X.env
      standAt apos.atName
      let (f, first) ← holding [ov] (getMethod ov m pl)
      callWith pos f first (backTo pos (starEach [] X.env)) (backToKw pos (keywordEach [] X.env))) := by rfl) :
    PE X (.Call (.Attribute o m apos) [] [] pos) ((bMeth tab m A baN).t W) := by
  refine ⟨fun pins s σ H Q I h => ?_⟩
  refine PySem.W.methodCall_KW (pl := pl) (thn (he.run pins s σ H _ I h) fun u s1 ⟨x, H1, I1, rx, a, en, dx, fs, hen, ex, ea, lk, q⟩ => ?_) ht
  subst ex
  obtain rfl : u = Value.ref a := rx
  obtain ⟨d, k, ps, fd, us0, mm, g1, g2, g3, g4, g5, g6⟩ := hm.at_ en hen
  obtain ⟨c1, c2⟩ := F.meth g1
  refine getmeth_ok I1 ea c1 c2 lk ?_
  have q : SpPX X.K en.W (.ref a :: ([] ++ en.vs)) H1 Q (WE W σ) := q
  exact PySem.W.callWith_K0 (first := [.ref a]) I1.kIn c2.kp (run_fnSD (us := [.ref a]) (vs := [.ref a]) g2 g3 g5 g4 (passK g6 tk σ) I1 (.cons rfl .nil) q)
theorem P_make {c : Str} {k j : Nat} {ps : List Str} {Wf : WP} {dvs : List V} {ds : List D} {hd : ∀ H, RepL X.K H (dvs.drop j) ds} (F : XCl X.K l) (hc : hasM l c "__init__" c = true) (O : OkC X.prog X.w X.K X.mg X.base k (c, some "__init__") ps dvs Wf) (hj : j ≤ dvs.length) (hr : Room (k + 1) X.A)
    (hm : X.mg c = some (.ref (He.ga X.K c))) (ha : PA X (e :: es) (As.t W)) (hg : Gl X c := by rfl) (hdb : (c == ("__debug__" : Str)) = false := by decide) (he : starEach (e :: es) X.env = (false, eval e X.env) :: starEach es X.env := by rfl) (hpl : (backTo pos (starEach es X.env)).any (·.1) = false := by rfl) :
    PE X (.Call (.Name c p) (e :: es) [] pos) ((bMake c Wf (dvs.drop j) ds hd As).t W) := by
  obtain ⟨fd, F1, b⟩ := O
  obtain ⟨us, b1, b2⟩ := b j hj
  exact pe_make (F.making hc) F1 hr hg hm b2 b1 pass0 ha hdb he hpl
theorem P_make0 {c : Str} {k j : Nat} {ps : List Str} {Wf : WP} {dvs : List V} {ds : List D} {hd : ∀ H, RepL X.K H (dvs.drop j) ds} (F : XCl X.K l) (hc : hasM l c "__init__" c = true) (O : OkC X.prog X.w X.K X.mg X.base k (c, some "__init__") ps dvs Wf) (hj : j ≤ dvs.length) (hr : Room (k + 1) X.A)
    (hm : X.mg c = some (.ref (He.ga X.K c))) (hg : Gl X c := by rfl) (hdb : (c == ("__debug__" : Str)) = false := by decide) :
    PE X (.Call (.Name c p) [] [] pos) ((bMake c Wf (dvs.drop j) ds hd baN).t W) := by
  obtain ⟨fd, F1, b⟩ := O
  obtain ⟨us, b1, b2⟩ := b j hj
  exact pe_make0 (F.making hc) F1 hr hg hm b2 b1 pass0 hdb
end
end
section
section
variable {K : Fg}
def kvW (d : D) (ω : Om) (F : Addr → List (Key × D) → Prop) : Prop := refW d fun a => optW (dkOf (ω a)) fun kvs => F a kvs
theorem kvW_ok {z : Z} (k : z.Ok K) {v : V} {x : D} {F : Addr → List (Key × D) → Prop} (r : Rep K z.d v x) (h : kvW x z.o F) : ∃ a xs kvs, v = .ref a ∧ x = .ref a ∧ Rd z.h a (.dK xs) ∧ RepK K z.d xs kvs ∧ F a kvs := by
  obtain ⟨a, rfl, h⟩ := refW_iff.mp h
  obtain ⟨kvs, h1, h⟩ := optW_iff.mp h
  cases r
  obtain ⟨xs, g1, g2⟩ := dkOf_ok k h1
  exact ⟨a, xs, kvs, rfl, rfl, g1, g2, h⟩
def dg1W (x y : D) (ω : Om) (F : Option D → Prop) : Prop := kvW x ω fun _ kvs => optW (keyD y) fun k => F (valD kvs k)
def bDget2 (o y x : BE K) : BE K where
  t := fun W => tDGet2 (o.t W) (y.t W) (x.t W)
  w := fun ρ ω Φ Ψ => o.w ρ ω (fun d ω1 => kvW d ω1 fun _ _ => y.w ρ ω1 (fun e ω2 => x.w ρ ω2 (fun f ω3 => dg1W d e ω3 fun r => Φ (r.getD f) ω3) Ψ) Ψ) Ψ
  ok := fun W ρ z σ Q Φ Ψ h k r q qx => by
    refine o.ok W ρ z σ _ _ Ψ h k r (fun v z1 d t1 r1 h1 => ?_) qx
    obtain ⟨a, xs, kvs, rfl, rfl, g1, _, h1⟩ := kvW_ok t1.ok r1 h1
    refine ⟨a, rfl, .inl ⟨xs, g1⟩, ?_⟩
    refine y.ok W ρ z1 σ _ _ Ψ h1 t1.ok (r.mono t1.ex) (fun u z2 e t2 r2 h2 => ?_) fun x cls d z2 t2 => qx x cls d z2 (t1.trans t2)
    have t12 := t1.trans t2
    refine x.ok W ρ z2 σ _ _ Ψ h2 t2.ok (r.mono t12.ex) (fun f z3 f' t3 r3 h3 => ?_) fun x cls d z2 t2 => qx x cls d z2 (t12.trans t2)
    have t13 := t12.trans t3
    obtain ⟨a', ys, kvs', e1, e2, g3, g4, h3⟩ := kvW_ok t3.ok (.ref a) h3
    cases e1
    obtain ⟨kk, hk, h3⟩ := optW_iff.mp h3
    refine ⟨valV ys kk, .inl ⟨ys, kk, g3, keyD_ok (r2.mono t3.ex) hk, rfl⟩, ?_⟩
    rcases repK_val kk g4 with ⟨e3, e4⟩ | ⟨w, d', e3, e4, rw'⟩
    · rw [e4] at h3
      rw [e3]
      exact q _ z3 _ t13 r3 h3
    · rw [e4] at h3
      rw [e3]
      exact q _ z3 _ t13 rw' h3
def bDsetd (o y x : BE K) : BE K where
  t := fun W => tDSetd (o.t W) (y.t W) (x.t W)
  w := fun ρ ω Φ Ψ => o.w ρ ω (fun d ω1 => kvW d ω1 fun a _ => y.w ρ ω1 (fun e ω2 => x.w ρ ω2 (fun f ω3 => cK (ω3 a) fun kvs => optW (keyD e) fun k => NeedW (kvs.length < 16777216) (match valD kvs k with
    | some g => Φ g ω3
    | none => Φ f (ω3.set a (.dk (putD kvs k f))))) Ψ) Ψ) Ψ
  ok := fun W ρ z σ Q Φ Ψ h k r q qx => by
    refine o.ok W ρ z σ _ _ Ψ h k r (fun v z1 d t1 r1 h1 => ?_) qx
    obtain ⟨a, xs, kvs, rfl, rfl, g1, _, h1⟩ := kvW_ok t1.ok r1 h1
    refine ⟨a, rfl, .inl ⟨xs, g1⟩, ?_⟩
    refine y.ok W ρ z1 σ _ _ Ψ h1 t1.ok (r.mono t1.ex) (fun u z2 e t2 r2 h2 => ?_) fun x cls d z2 t2 => qx x cls d z2 (t1.trans t2)
    have t12 := t1.trans t2
    refine x.ok W ρ z2 σ _ _ Ψ h2 t2.ok (r.mono t12.ex) (fun f z3 f' t3 r3 h3 => ?_) fun x cls d z2 t2 => qx x cls d z2 (t12.trans t2)
    have t13 := t12.trans t3
    obtain ⟨kvs', hc, h3⟩ := cK_iff.mp h3
    obtain ⟨kk, hk, hl, h3⟩ := optW_iff.mp h3
    obtain ⟨_, ys, g3, g4⟩ := t3.ok.cell _ _ hc
    refine ⟨ys, kk, g3, keyD_ok (r2.mono t3.ex) hk, by rw [repK_len g4, sizeLine_eq]; exact hl, fun v hv => ?_, fun hv => ?_⟩
    · rcases repK_val kk g4 with ⟨e3, e4⟩ | ⟨w, d', e3, e4, rw'⟩
      · rw [hv] at e3; cases e3
      · rw [hv] at e3
        cases e3
        rw [e4] at h3
        exact q _ z3 _ t13 rw' h3
    · rcases repK_val kk g4 with ⟨e3, e4⟩ | ⟨w, d', e3, e4, rw'⟩
      · rw [e4] at h3
        have t := t3.ok.put (o := .dK (putK ys kk f)) (c' := .dk (putD kvs' kk f')) hc ⟨_, upd_same, repK_put r3 g4⟩
        exact q _ _ _ (t13.trans t) (r3.mono t.ex) h3
      · rw [hv] at e3; cases e3
theorem repK_drop (kk : Key) {H : Hp} : ∀ {xs : List (Key × V)} {ds : List (Key × D)}, RepK K H xs ds → RepK K H (dropK xs kk) (dropD ds kk)
  | _, _, .nil => .nil
  | _, _, .cons (a := p) (b := q) h r => by
    unfold dropK dropD
    rw [List.filter_cons, List.filter_cons]
    by_cases e : q.1 = kk
    · have e1 : p.1 = kk := h.1.trans e
      rw [if_neg (by simp [e1]), if_neg (by simp [e])]
      exact repK_drop kk r
    · have e1 : p.1 ≠ kk := fun z => e (h.1.symm.trans z)
      rw [if_pos (by simp [e1]), if_pos (by simp [e])]
      exact .cons h (repK_drop kk r)
def bDpop (o y : BE K) : BE K where
  t := fun W => tDPop1 (o.t W) (y.t W)
  w := fun ρ ω Φ Ψ => o.w ρ ω (fun d ω1 => kvW d ω1 fun a _ => y.w ρ ω1 (fun e ω2 => cK (ω2 a) fun kvs => optW (keyD e) fun k => optW (valD kvs k) fun g => Φ g (ω2.set a (.dk (dropD kvs k)))) Ψ) Ψ
  ok := fun W ρ z σ Q Φ Ψ h k r q qx => by
    refine o.ok W ρ z σ _ _ Ψ h k r (fun v z1 d t1 r1 h1 => ?_) qx
    obtain ⟨a, xs, kvs, rfl, rfl, g1, _, h1⟩ := kvW_ok t1.ok r1 h1
    refine ⟨a, rfl, .inl ⟨xs, g1⟩, ?_⟩
    refine y.ok W ρ z1 σ _ _ Ψ h1 t1.ok (r.mono t1.ex) (fun u z2 e t2 r2 h2 => ?_) fun x cls d z2 t2 => qx x cls d z2 (t1.trans t2)
    have t12 := t1.trans t2
    obtain ⟨kvs', hc, h2⟩ := cK_iff.mp h2
    obtain ⟨kk, hk, h2⟩ := optW_iff.mp h2
    obtain ⟨g, hg, h2⟩ := optW_iff.mp h2
    obtain ⟨_, ys, g3, g4⟩ := t2.ok.cell _ _ hc
    rcases repK_val kk g4 with ⟨e3, e4⟩ | ⟨w, d', e3, e4, rw'⟩
    · rw [hg] at e4; cases e4
    · rw [hg] at e4
      cases e4
      have t := t2.ok.put (o := .dK (dropK ys kk)) (c' := .dk (dropD kvs' kk)) hc ⟨_, upd_same, repK_drop kk g4⟩
      exact ⟨ys, kk, w, g3, keyD_ok r2 hk, e3, q _ _ _ (t12.trans t) (rw'.mono t.ex) h2⟩
def cDictC : CB K where
  r := fun xs H Q => ∃ (a : Addr) (kvs : List (Key × V)), xs = [.ref a] ∧ Rd H a (.dK kvs) ∧ ∀ p, H p = none → Q (.ref p) (upd H p (.dK kvs))
  w := fun ds ω Φ => match ds with
    | [d] => kvW d ω fun _ kvs => ∀ p, ω p = none → Φ (.ref p) (ω.set p (.dk kvs))
    | _ => False
  ok := fun z xs ds Q Φ h k r q => by
    split at h
    · obtain ⟨x, rfl, r1⟩ := rep1 r
      obtain ⟨a, ys, kvs, rfl, _, g1, g2, h⟩ := kvW_ok k r1 h
      refine ⟨a, ys, rfl, g1, fun p hp => ?_⟩
      have t := k.lay (o := .dK ys) (c := .dk kvs) hp ⟨_, upd_same, g2⟩
      exact q _ _ _ t (.ref p) (h p (k.free hp).2)
    · exact h.elim
def cListK (own : Bool) : CB K where
  r := fun xs H Q => ∃ (a : Addr) (kvs : List (Key × V)), xs = [.ref a] ∧ Rd H a (.dK kvs) ∧ ∀ p, H p = none → Q (.ref p) (upd H p (.lst (kvs.map fun kv => kV kv.1)))
  w := fun ds ω Φ => match ds with
    | [d] => kvW d ω fun _ kvs => if own = true then ∀ p, ω p = none → Φ (.ref p) (ω.set p (.lst (kvs.map fun p => kD p.1))) else Φ (.lst (kvs.map fun p => kD p.1)) ω
    | _ => False
  ok := fun z xs ds Q Φ h k r q => by
    split at h
    · obtain ⟨x, rfl, r1⟩ := rep1 r
      obtain ⟨a, ys, kvs, rfl, _, g1, g2, h⟩ := kvW_ok k r1 h
      refine ⟨a, ys, rfl, g1, fun p hp => ?_⟩
      have e : ∀ {xs : List (Key × V)} {ds : List (Key × D)}, RepK K z.d xs ds → xs.map (fun kv => kV kv.1) = (ds.map (·.1)).map kV := by
        intro xs ds h
        induction h with
        | nil => rfl
        | cons h _ ih => rw [List.map_cons, List.map_cons, List.map_cons, ih, h.1]
      have e2 : kvs.map (fun p => kD p.1) = (kvs.map (·.1)).map kD := by rw [List.map_map]; rfl
      rw [e g2]
      rw [e2] at h
      cases own with
      | true =>
        rw [if_pos rfl] at h
        have t := k.lay (o := .lst ((kvs.map (·.1)).map kV)) (c := .lst ((kvs.map (·.1)).map kD)) hp ⟨_, upd_same, kDs_rep _⟩
        exact q _ _ _ t (.ref p) (h p (k.free hp).2)
      | false =>
        rw [if_neg Bool.false_ne_true] at h
        have t := k.add (o := .lst ((kvs.map (·.1)).map kV)) hp
        exact q _ _ _ t (.lst upd_same (kDs_rep _)) h
    · exact h.elim
def cLenK : CB K where
  r := fun xs H Q => ∃ a kvs, xs = [V.ref a] ∧ H a = some (.dK kvs) ∧ Q (.int kvs.length) H
  w := fun ds ω Φ => match ds with
    | [d] => refW d fun a => cK (ω a) fun kvs => Φ (.int kvs.length) ω
    | _ => False
  ok := fun z xs ds Q Φ h k r q => by
    split at h
    · obtain ⟨x, rfl, r1⟩ := rep1 r
      obtain ⟨a, rfl, h⟩ := refW_iff.mp h
      obtain ⟨kvs, hc, h⟩ := cK_iff.mp h
      cases r1
      obtain ⟨_, ys, g3, g4⟩ := k.cell _ _ hc
      refine ⟨a, ys, rfl, g3, ?_⟩
      rw [repK_len g4]
      exact q _ z _ k.to (.int _) h
    · exact h.elim
def bLock (E : BE K) : BE K where
  t := fun W => tLockE (E.t W)
  w := fun ρ ω Φ Ψ => ∃ a kvs, ω a = some (.dk kvs) ∧ ∀ o xs, E.w ρ (ω.set a (.fk o xs kvs)) (fun e ω2 => ω2 a = some (.fk o xs kvs) ∧ Φ e (ω2.set a (.dk kvs))) fun _ _ => False
  ok := fun W ρ z σ Q Φ Ψ h k r q qx => by
    obtain ⟨a, kvs, hc, h⟩ := h
    obtain ⟨_, ys, g1, g2⟩ := k.cell _ _ hc
    refine ⟨a, .dK ys, g1, trivial, fun od => ?_⟩
    have t := k.put (o := .frz od (.dK ys)) (c' := .fk od ys kvs) hc ⟨upd_same, g2⟩
    refine E.ok W ρ _ σ _ _ (fun _ _ => False) (h od ys) t.ok r (fun v z2 d t2 r2 h2 => ?_) fun _ _ _ _ _ _ h => h.elim
    obtain ⟨h2, h3⟩ := h2
    obtain ⟨_, g3, g4⟩ := t2.ok.cell _ _ h2
    have t3 := t2.ok.put (o := .dK ys) (c' := .dk kvs) h2 ⟨_, upd_same, g4⟩
    exact ⟨g3, q v _ d (t.trans (t2.trans t3)) (r2.mono t3.ex) h3⟩
theorem it_vals (z : Z) (a : Addr) (o : Obj) (xs : List (Key × V)) (kvs : List (Key × D)) : ItOk K (Itd a o xs) z (kvs.map fun p => p.2) fun ω => ω a = some (.fk o xs kvs) where
  go := fun i z1 t hc hi => by
    obtain ⟨_, h1, h2⟩ := t.ok.cell _ _ hc
    have hl := repK_len h2
    rw [List.length_map] at hi
    refine ⟨⟨h1, by omega⟩, fun x H' ⟨e1, k, e2⟩ => ?_⟩
    obtain ⟨v', e4, rv⟩ := repK_get (i := i) h2 (List.getElem?_eq_getElem hi)
    rw [e2] at e4
    cases e4
    exact ⟨z1, kvs[i].2, t.ok.to, e1.symm, rfl, by rw [List.getElem?_map, List.getElem?_eq_getElem hi]; rfl, rv⟩
  stop := fun i z1 t hc hi => by
    obtain ⟨_, h1, h2⟩ := t.ok.cell _ _ hc
    rw [List.length_map] at hi
    exact ⟨h1, by rw [repK_len h2]; exact hi⟩
theorem it_items (z : Z) (a : Addr) (o : Obj) (xs : List (Key × V)) (kvs : List (Key × D)) : ItOk K (Iti a o xs) z (kvs.map fun p => .tup [kD p.1, p.2]) fun ω => ω a = some (.fk o xs kvs) where
  go := fun i z1 t hc hi => by
    obtain ⟨_, h1, h2⟩ := t.ok.cell _ _ hc
    have hl := repK_len h2
    rw [List.length_map] at hi
    refine ⟨⟨h1, by omega⟩, fun x H' ⟨T, k, v, e2, e3, e5, e6⟩ => ?_⟩
    obtain ⟨v', e4, rv⟩ := repK_get (i := i) h2 (List.getElem?_eq_getElem hi)
    rw [e2] at e4
    cases e4
    subst e3 e6
    have ta := t.ok.add (o := .tup [kV kvs[i].1, v]) e5
    exact ⟨_, .tup [kD kvs[i].1, kvs[i].2], ta, rfl, rfl, by rw [List.getElem?_map, List.getElem?_eq_getElem hi]; rfl, .tup (SqT.of upd_same) (.cons (kD_rep _) (.cons (rv.mono ta.ex) .nil))⟩
  stop := fun i z1 t hc hi => by
    obtain ⟨_, h1, h2⟩ := t.ok.cell _ _ hc
    rw [List.length_map] at hi
    exact ⟨h1, by rw [repK_len h2]; exact hi⟩
def frzW (x : D) (ω : Om) (F : Addr → Obj → List (Key × V) → List (Key × D) → Prop) : Prop := refW x fun a => match ω a with
  | some (.fk o xs kvs) => F a o xs kvs
  | _ => False
theorem frzW_iff {x : D} {ω : Om} {F : Addr → Obj → List (Key × V) → List (Key × D) → Prop} : frzW x ω F ↔ ∃ a o xs kvs, x = .ref a ∧ ω a = some (.fk o xs kvs) ∧ F a o xs kvs := by
  unfold frzW
  constructor
  · intro h
    obtain ⟨a, rfl, h⟩ := refW_iff.mp h
    have h : (match ω a with
      | some (.fk o xs kvs) => F a o xs kvs
      | _ => False) := h
    split at h
    · rename_i o xs kvs e; exact ⟨a, o, xs, kvs, rfl, e, h⟩
    · exact h.elim
  · rintro ⟨a, o, xs, kvs, rfl, e, h⟩
    refine refW_iff.mpr ⟨a, rfl, ?_⟩
    rw [e]; exact h
def biVals (e : BE K) : BI K where
  t := fun W => iVals (e.t W)
  w := fun ρ ω Φ Ψ => e.w ρ ω (fun x ω1 => frzW x ω1 fun a o xs kvs => Φ (kvs.map fun p => p.2) (fun ω' => ω' a = some (.fk o xs kvs)) ω1) Ψ
  ok := fun W ρ z σ R Φ Ψ h o r q qx => by
    refine e.ok W ρ z σ _ _ Ψ h o r (fun v z1 d t1 r1 h1 => ?_) qx
    obtain ⟨a, ob, xs, kvs, rfl, hc, h1⟩ := frzW_iff.mp h1
    cases r1
    obtain ⟨_, g1, g2⟩ := t1.ok.cell _ _ hc
    exact ⟨a, ob, xs, rfl, g1, q _ z1 _ _ t1 (it_vals _ _ ob xs kvs) h1⟩
def biItems (e : BE K) : BI K where
  t := fun W => iItems (e.t W)
  w := fun ρ ω Φ Ψ => e.w ρ ω (fun x ω1 => frzW x ω1 fun a o xs kvs => Φ (kvs.map fun p => .tup [kD p.1, p.2]) (fun ω' => ω' a = some (.fk o xs kvs)) ω1) Ψ
  ok := fun W ρ z σ R Φ Ψ h o r q qx => by
    refine e.ok W ρ z σ _ _ Ψ h o r (fun v z1 d t1 r1 h1 => ?_) qx
    obtain ⟨a, ob, xs, kvs, rfl, hc, h1⟩ := frzW_iff.mp h1
    cases r1
    obtain ⟨_, g1, g2⟩ := t1.ok.cell _ _ hc
    exact ⟨a, ob, xs, rfl, g1, q _ z1 _ _ t1 (it_items _ _ ob xs kvs) h1⟩
def biKeysF (e : BE K) : BI K where
  t := fun W => iKeys (e.t W)
  w := fun ρ ω Φ Ψ => e.w ρ ω (fun x ω1 => frzW x ω1 fun a o xs kvs => Φ (kvs.map fun p => kD p.1) (fun ω' => ω' a = some (.fk o xs kvs)) ω1) Ψ
  ok := fun W ρ z σ R Φ Ψ h o r q qx => by
    refine e.ok W ρ z σ _ _ Ψ h o r (fun v z1 d t1 r1 h1 => ?_) qx
    obtain ⟨a, ob, xs, kvs, rfl, hc, h1⟩ := frzW_iff.mp h1
    cases r1
    obtain ⟨_, g1, g2⟩ := t1.ok.cell _ _ hc
    exact ⟨a, ob, rfl, .inl ⟨xs, g1, q _ z1 _ _ t1 (it_keys _ _ ob xs kvs) h1⟩⟩
theorem repL_pairs {H' : Hp} {Hd : Hp} : ∀ {ts : List Addr} {xs : List (Key × V)} {kvs : List (Key × D)}, RepK K Hd xs kvs → Paired (fun (t : Addr) (q : Key × V) => H' t = some (.tup [kV q.1, q.2])) ts xs → (∀ a o, Hd a = some o → H' a = some o) → RepL K H' (ts.map V.ref) (kvs.map fun p => .tup [kD p.1, p.2])
  | _, _, _, .nil, .nil, _ => .nil
  | _, _, _, .cons h r, .cons g s, e => by
    refine .cons (.tup (SqT.of g) (.cons ?_ (.cons (h.2.mono e) .nil))) (repL_pairs r s e)
    rw [h.1]; exact kD_rep _
def bListItems (e : BE K) : BE K where
  t := fun W => LiI.tListItems (e.t W)
  w := fun ρ ω Φ Ψ => e.w ρ ω (fun x ω1 => refW x fun a => cK (ω1 a) fun kvs => Φ (.lst (kvs.map fun p => .tup [kD p.1, p.2])) ω1) Ψ
  ok := fun W ρ z σ Q Φ Ψ h k r q qx => by
    refine e.ok W ρ z σ _ _ Ψ h k r (fun v z1 d t1 r1 h1 => ?_) qx
    obtain ⟨a, rfl, h1⟩ := refW_iff.mp h1
    obtain ⟨kvs, hc, h1⟩ := cK_iff.mp h1
    cases r1
    obtain ⟨_, xs, g1, g2⟩ := t1.ok.cell _ _ hc
    refine ⟨a, xs, rfl, g1, fun H' p ts ext hp hts hn hH' pr => ?_⟩
    let dd : Hp := fun b => if b = p ∨ b ∈ ts then H' b else z1.d b
    have hd0 : ∀ b, (b = p ∨ b ∈ ts) → z1.h b = none := fun b hb => by
      rcases hb with rfl | hb
      · exact hp
      · exact hts b hb
    have exd : Exd z1.d dd := fun b o e => by
      show (if b = p ∨ b ∈ ts then H' b else z1.d b) = some o
      rw [if_neg]
      · exact e
      · intro hb; have := t1.ok.fz b o e; rw [hd0 b hb] at this; cases this
    have dH : ∀ b o, dd b = some o → H' b = some o := fun b o e => by
      have e : (if b = p ∨ b ∈ ts then H' b else z1.d b) = some o := e
      by_cases hb : b = p ∨ b ∈ ts
      · rw [if_pos hb] at e; exact e
      · rw [if_neg hb] at e; exact ext _ _ (t1.ok.fz b o e)
    have pr2 : Paired (fun (t : Addr) (q : Key × V) => dd t = some (.tup [kV q.1, q.2])) ts xs := by
      have : ∀ {us : List Addr} {ys : List (Key × V)}, Paired (fun (t : Addr) (q : Key × V) => H' t = some (.tup [kV q.1, q.2])) us ys → (∀ t ∈ us, t ∈ ts) → Paired (fun (t : Addr) (q : Key × V) => dd t = some (.tup [kV q.1, q.2])) us ys := by
        intro us ys h
        induction h with
        | nil => intro _; exact .nil
        | cons h _ ih =>
          intro hm
          refine .cons ?_ (ih fun t ht => hm t (List.mem_cons_of_mem _ ht))
          show (if _ = p ∨ _ ∈ ts then H' _ else z1.d _) = _
          rw [if_pos (.inr (hm _ List.mem_cons_self))]; exact h
      exact this pr fun _ h => h
    have inT : ∀ {us : List Addr} {ys : List (Key × V)}, Paired (fun (t : Addr) (q : Key × V) => H' t = some (.tup [kV q.1, q.2])) us ys → ∀ t ∈ us, ∃ o, H' t = some (.tup o) := by
      intro us ys h
      induction h with
      | nil => intro t ht; cases ht
      | cons h _ ih =>
        intro t ht
        rcases List.mem_cons.mp ht with rfl | ht
        · exact ⟨_, h⟩
        · exact ih t ht
    have to2 : To K z1 ⟨dd, H', z1.o, z1.t⟩ := by
      refine ⟨⟨dH, fun b c e => ?_, t1.ok.tab.ext ext, t1.ok.tk, fun b o e => ?_⟩, exd, fun b o e _ _ => ext b o e, fun b hb => ?_, rfl, fun b hb => .inl hb, fun b hb => ?_⟩
      · obtain ⟨c1, c2⟩ := t1.ok.cell b c e
        refine ⟨?_, c2.mono exd fun u e => ext _ _ e⟩
        show (if b = p ∨ b ∈ ts then H' b else z1.d b) = none
        rw [if_neg]
        · exact c1
        · intro hb
          obtain ⟨o, ho⟩ := c2.some
          rw [hd0 b hb] at ho; cases ho
      · have e2 : (if b = p ∨ b ∈ ts then H' b else z1.d b) = some o := e
        by_cases hb : b = p ∨ b ∈ ts
        · rw [if_pos hb] at e2
          rcases hb with hb | hb
          · rw [hb, hH'] at e2; cases e2; exact fun _ w => by cases w
          · obtain ⟨o', ho'⟩ := inT pr b hb
            rw [ho'] at e2; cases e2; exact fun _ w => by cases w
        · rw [if_neg hb] at e2; exact t1.ok.nd b o e2
      · cases e : z1.h b with
        | none => exact absurd e hb
        | some o =>
          have := ext b o e
          show H' b ≠ none
          rw [this]; simp
      · have hb : (if b = p ∨ b ∈ ts then H' b else z1.d b) ≠ none := hb
        by_cases hc : b = p ∨ b ∈ ts
        · exact .inr (.inl (hd0 b hc))
        · rw [if_neg hc] at hb; exact .inl hb
    refine q (.ref p) _ (.lst (kvs.map fun p => .tup [kD p.1, p.2])) (t1.trans to2) (.lst ?_ (repL_pairs g2 pr2 exd)) h1
    show (if p = p ∨ p ∈ ts then H' p else z1.d p) = _
    rw [if_pos (.inl rfl)]; exact hH'
theorem ltCps_eq : ∀ a b : List Nat, PySem.Spec.ltCps a b = ltS a b
  | [], [] => by unfold ltS; rfl
  | [], _ :: _ => by unfold ltS; simp [PySem.Spec.ltCps]
  | _ :: _, [] => by unfold ltS; simp [PySem.Spec.ltCps]
  | a :: r, b :: t => by
    have ih := ltCps_eq r t
    unfold ltS at ih ⊢
    rw [PySem.Spec.ltCps, ih, Bool.eq_iff_iff]
    simp [List.cons_lt_cons_iff]
theorem leS_trans {x y w : List Nat} (h : ltS y x = false) (g : ltS w y = false) : ltS w x = false := by
  unfold ltS at h g ⊢
  have h := of_decide_eq_false h
  have g := of_decide_eq_false g
  refine decide_eq_false fun z => ?_
  have h1 : x ≤ y := List.not_lt.mp h
  have g1 : y ≤ w := List.not_lt.mp g
  exact absurd z (List.not_lt.mpr (List.le_trans h1 g1))
theorem rising_pw : ∀ (l : List (List Nat)) (p : List Nat), risingS (sOf p) (l.map sOf) = true → (∀ y ∈ l, ltS y p = false) ∧ l.Pairwise fun x y => ltS y x = false
  | [], _, _ => ⟨fun _ h => (nomatch h), List.Pairwise.nil⟩
  | x :: r, p, h => by
    rw [List.map_cons, risingS, Bool.and_eq_true, ltCps_eq] at h
    obtain ⟨h1, h2⟩ := h
    have h1 : ltS x p = false := by simpa [sOf] using h1
    obtain ⟨i1, i2⟩ := rising_pw r x h2
    refine ⟨fun y hy => ?_, List.pairwise_cons.mpr ⟨i1, i2⟩⟩
    rcases List.mem_cons.mp hy with rfl | hy
    · exact h1
    · exact leS_trans h1 (i1 y hy)
theorem sortedS_pw : ∀ (l : List (List Nat)), sortedS (l.map sOf) = true → l.Pairwise fun x y => ltS y x = false
  | [], _ => .nil
  | x :: r, h => by
    obtain ⟨i1, i2⟩ := rising_pw r x h
    exact List.pairwise_cons.mpr ⟨i1, i2⟩
theorem cs_sOf2 (s : List Nat) : cs (sOf s) = s := by simp [sOf]
def cSortS (own : Bool) : CB K where
  r := rSortedS K
  w := fun ds ω Φ => match ds with
    | [d] => optW (lstOf ω d) fun us => optW (strsOf us) fun ts => NeedW (ts.length < 64) (∀ l : List (List Nat), l.Perm ts → (l.Pairwise fun x y => ltS y x = false) → if own = true then ∀ a, ω a = none → Φ (.ref a) (ω.set a (.lst (l.map .str))) else Φ (.lst (l.map .str)) ω)
    | _ => False
  ok := fun z xs ds Q Φ h k r q => by
    split at h
    · obtain ⟨x, rfl, r1⟩ := rep1 r
      obtain ⟨us, h1, h⟩ := optW_iff.mp h
      obtain ⟨ts, h2, h⟩ := optW_iff.mp h
      obtain ⟨a, ys, rfl, ha, ry⟩ := lstOf_seq k r1 h1
      rw [strsOf_eq h2] at ry
      rw [RepL.strs ry] at ha
      refine ⟨a, ts.map sOf, rfl, ha, by rw [List.length_map]; exact h.1, fun vs p pm pw hp => ?_⟩
      obtain ⟨m, e⟩ : ∃ m : List (List Nat), m.map sOf = vs := ⟨vs.map cs, by rw [List.map_map]; exact (List.map_congr_left fun x _ => sOf_cs2 x).trans (List.map_id _)⟩
      subst e
      have pm2 : m.Perm ts := by
        have := pm.map cs
        rw [List.map_map, List.map_map] at this
        have i : ∀ l : List (List Nat), l.map (cs ∘ sOf) = l := fun l => (List.map_congr_left fun x _ => cs_sOf x).trans (List.map_id _)
        rwa [i, i] at this
      have h3 := h.2 m pm2 (sortedS_pw m pw)
      cases own with
      | true =>
        rw [if_pos rfl] at h3
        have l := k.lay (o := .lst ((m.map sOf).map V.str)) (c := .lst (m.map .str)) hp ⟨_, upd_same, RepL.of_strs m⟩
        exact q _ _ _ l (.ref p) (h3 p (k.free hp).2)
      | false =>
        rw [if_neg Bool.false_ne_true] at h3
        have l := k.add (o := .lst ((m.map sOf).map V.str)) hp
        exact q _ _ _ l (.lst upd_same (RepL.of_strs m)) h3
    · exact h.elim
theorem call_cSortS {X : Cx} {own : Bool} : CallR X (.builtin "sorted") (cSortS (K := X.K) own).r := cr_sortedS
theorem call_cListK {X : Cx} {own : Bool} (hc : X.calm = true := by rfl) : CallR X (.type "list") (cListK (K := X.K) own).r := call_listD hc
def txtKeys : List (Key × D) → Option (List (List Nat))
  | [] => some []
  | (.inr s, _) :: r => (txtKeys r).map (cs s :: ·)
  | _ => none
theorem txtKeys_ok {Hd : Hp} : ∀ {xs : List (Key × V)} {kvs : List (Key × D)} {ts : List (List Nat)}, RepK K Hd xs kvs → txtKeys kvs = some ts → xs.map (·.1) = (ts.map sOf).map Sum.inr
  | _, _, _, .nil, h => by cases h; rfl
  | _, _, ts, .cons (a := p) (b := q) h r, e => by
    obtain ⟨k, d⟩ := q
    cases k with
    | inl i => cases e
    | inr s =>
      unfold txtKeys at e
      obtain ⟨us, e1, rfl⟩ := Option.map_eq_some_iff.mp e
      have h1 : p.1 = .inr s := h.1
      rw [List.map_cons, List.map_cons, List.map_cons, h1, txtKeys_ok r e1, sOf_cs2]
def cSortK (own : Bool) : CB K where
  r := fun xs H Q => ∃ (a : Addr) (kvs : List (Key × V)) (ks : List Str), xs = [.ref a] ∧ Rd H a (.dK kvs) ∧ kvs.map (·.1) = ks.map Sum.inr ∧ ks.length < 64 ∧ ∀ ys p, ys.Perm ks → sortedS ys = true → H p = none → Q (.ref p) (upd H p (.lst (ys.map V.str)))
  w := fun ds ω Φ => match ds with
    | [d] => kvW d ω fun _ kvs => optW (txtKeys kvs) fun ts => NeedW (ts.length < 64) (∀ l : List (List Nat), l.Perm ts → (l.Pairwise fun x y => ltS y x = false) → if own = true then ∀ a, ω a = none → Φ (.ref a) (ω.set a (.lst (l.map .str))) else Φ (.lst (l.map .str)) ω)
    | _ => False
  ok := fun z xs ds Q Φ h k r q => by
    split at h
    · obtain ⟨x, rfl, r1⟩ := rep1 r
      obtain ⟨a, ys, kvs, rfl, _, g1, g2, h⟩ := kvW_ok k r1 h
      obtain ⟨ts, h2, h⟩ := optW_iff.mp h
      refine ⟨a, ys, ts.map sOf, rfl, g1, txtKeys_ok g2 h2, by rw [List.length_map]; exact h.1, fun vs p pm pw hp => ?_⟩
      obtain ⟨m, e⟩ : ∃ m : List (List Nat), m.map sOf = vs := ⟨vs.map cs, by rw [List.map_map]; exact (List.map_congr_left fun x _ => sOf_cs2 x).trans (List.map_id _)⟩
      subst e
      have pm2 : m.Perm ts := by
        have := pm.map cs
        rw [List.map_map, List.map_map] at this
        have i : ∀ l : List (List Nat), l.map (cs ∘ sOf) = l := fun l => (List.map_congr_left fun x _ => cs_sOf x).trans (List.map_id _)
        rwa [i, i] at this
      have h3 := h.2 m pm2 (sortedS_pw m pw)
      cases own with
      | true =>
        rw [if_pos rfl] at h3
        have l := k.lay (o := .lst ((m.map sOf).map V.str)) (c := .lst (m.map .str)) hp ⟨_, upd_same, RepL.of_strs m⟩
        exact q _ _ _ l (.ref p) (h3 p (k.free hp).2)
      | false =>
        rw [if_neg Bool.false_ne_true] at h3
        have l := k.add (o := .lst ((m.map sOf).map V.str)) hp
        exact q _ _ _ l (.lst upd_same (RepL.of_strs m)) h3
    · exact h.elim
end
section
variable {X : Cx} {W : WX} {a b c e : Expr} {A B C' E : BE X.K} {S : BS X.K} {st : Stmt} {apos cpos p pos : Pos}
theorem P_dget2 (hu : X.A.units + 1 < cLine) (ho : PE X a (A.t W)) (hy : PE X b (B.t W)) (hx : PE X c (C'.t W)) (m : M2 X a "get" apos b c cpos := by exact ⟨rfl, rfl, rfl, rfl⟩) : PE X (.Call (.Attribute a "get" apos) [b, c] [] cpos) ((bDget2 A B C').t W) := pe_dget2 hu ho hy hx m
theorem P_dsetd (ho : PE X a (A.t W)) (hy : PE X b (B.t W)) (hx : PE X c (C'.t W)) (m : M2 X a "setdefault" apos b c cpos := by exact ⟨rfl, rfl, rfl, rfl⟩) : PE X (.Call (.Attribute a "setdefault" apos) [b, c] [] cpos) ((bDsetd A B C').t W) := pe_dsetd ho hy hx m
theorem P_lock (h : PE X e (E.t W)) : PE X e ((bLock E).t W) := pe_lock h
theorem I_keysF {tg : Expr} (h : PE X e (E.t W)) : PI X tg e ((biKeysF E).t W) := pi_keys h
theorem I_vals {tg : Expr} (h : PE X e (E.t W)) (hbase : attributeBase e "values" X.env (eval e X.env) = eval e X.env := by rfl) (hline : (apos.endLine == cpos.line) = true := by rfl) : PI X tg (.Call (.Attribute e "values" apos) [] [] cpos) ((biVals E).t W) := pi_values h hbase hline
theorem P_listItems (hm : X.mg "list" = none) (h : PE X e (E.t W)) (hc : X.calm = true := by rfl) (hg : Gl X "list" := by rfl) (hv : bootBuiltins "list" = some (.type "list") := by decide +kernel) (hbase : attributeBase e "items" X.env (eval e X.env) = eval e X.env := by rfl) (hline : (apos.endLine == cpos.line) = true := by rfl)
    (hs : starEach [.Call (.Attribute e "items" apos) [] [] cpos] X.env = (false, eval (.Call (.Attribute e "items" apos) [] [] cpos) X.env) :: starEach [] X.env := by rfl) : PE X (.Call (.Name "list" p) [.Call (.Attribute e "items" apos) [] [] cpos] [] pos) ((bListItems E).t W) := LiI.pe_listItems hc h hg hm hv hbase hline hs
end
end
end T
namespace T
open PySem L2
section
section
variable {K : Fg} {l : List CCl} {f m c : Str} {A B C' E : BE K} {As : BA K} {S : BS K} {ρ : En} {ω : Om} {Φ : D → Om → Prop} {Ψ : Exn → Om → Prop} {k : KD}
theorem x_fld : (bFld l f A).w ρ ω Φ Ψ = A.w ρ ω (fun x ω1 => refW x fun a => insW (ω1 a) fun c fs => hasF l c f = true ∧ optW (fs.lookup f) fun d => Φ d ω1) Ψ := rfl
theorem x_sfld : (bsFld l f A B).w ρ ω k = B.w ρ ω (fun d ω1 => A.w ρ ω1 (fun x ω2 => refW x fun a => insW (ω2 a) fun c fs => hasF l c f = true ∧ fs.length < 1000 ∧ k.nx ρ (ω2.set a (.ins c (putFD f d fs)))) fun x ω1 => k.xc x ρ ω1) fun x ω1 => k.xc x ρ ω1 := rfl
theorem x_meth {tab : List (MT K)} : (bMeth tab m A As).w ρ ω Φ Ψ = A.w ρ ω (fun x ω1 => refW x fun a => insW (ω1 a) fun c fs => fs.lookup m = none ∧ tabW tab c fun e => As.w ρ ω1 (fun ds ω2 => e.W (.ref a :: (ds ++ e.ds)) ω2 Φ Ψ) Ψ) Ψ := rfl
theorem x_make {W : WP} {vs : List V} {ds : List D} {hd : ∀ H, RepL K H vs ds} : (bMake c W vs ds hd As).w ρ ω Φ Ψ = As.w ρ ω (fun xs ω1 => ∀ a, ω1 a = none → W (.ref a :: (xs ++ ds)) (ω1.set a (.ins c [])) fun d ω2 => d = .non ∧ Φ (.ref a) ω2) Ψ := rfl
theorem x_dget2 : (bDget2 A B C').w ρ ω Φ Ψ = A.w ρ ω (fun d ω1 => kvW d ω1 fun _ _ => B.w ρ ω1 (fun e ω2 => C'.w ρ ω2 (fun f ω3 => dg1W d e ω3 fun r => Φ (r.getD f) ω3) Ψ) Ψ) Ψ := rfl
theorem x_dsetd : (bDsetd A B C').w ρ ω Φ Ψ = A.w ρ ω (fun d ω1 => kvW d ω1 fun a _ => B.w ρ ω1 (fun e ω2 => C'.w ρ ω2 (fun f ω3 => cK (ω3 a) fun kvs => optW (keyD e) fun k => NeedW (kvs.length < 16777216) (match valD kvs k with
    | some g => Φ g ω3
    | none => Φ f (ω3.set a (.dk (putD kvs k f))))) Ψ) Ψ) Ψ := rfl
theorem x_dpop : (bDpop A B).w ρ ω Φ Ψ = A.w ρ ω (fun d ω1 => kvW d ω1 fun a _ => B.w ρ ω1 (fun e ω2 => cK (ω2 a) fun kvs => optW (keyD e) fun k => optW (valD kvs k) fun g => Φ g (ω2.set a (.dk (dropD kvs k)))) Ψ) Ψ := rfl
theorem x_biVals {F : List D → (Om → Prop) → Om → Prop} : (biVals A).w ρ ω F Ψ = A.w ρ ω (fun x ω1 => frzW x ω1 fun a o xs kvs => F (kvs.map fun p => p.2) (fun ω' => ω' a = some (.fk o xs kvs)) ω1) Ψ := rfl
theorem x_biItems {F : List D → (Om → Prop) → Om → Prop} : (biItems A).w ρ ω F Ψ = A.w ρ ω (fun x ω1 => frzW x ω1 fun a o xs kvs => F (kvs.map fun p => .tup [kD p.1, p.2]) (fun ω' => ω' a = some (.fk o xs kvs)) ω1) Ψ := rfl
theorem x_biKeysF {F : List D → (Om → Prop) → Om → Prop} : (biKeysF A).w ρ ω F Ψ = A.w ρ ω (fun x ω1 => frzW x ω1 fun a o xs kvs => F (kvs.map fun p => kD p.1) (fun ω' => ω' a = some (.fk o xs kvs)) ω1) Ψ := rfl
theorem x_listItems : (bListItems A).w ρ ω Φ Ψ = A.w ρ ω (fun x ω1 => refW x fun a => cK (ω1 a) fun kvs => Φ (.lst (kvs.map fun p => .tup [kD p.1, p.2])) ω1) Ψ := rfl
theorem x_refW {a : Addr} {F : Addr → Prop} : refW (.ref a) F = F a := rfl
theorem x_insW {fs : List (Str × D)} {F : Str → List (Str × D) → Prop} : insW (some (.ins c fs)) F = F c fs := rfl
theorem x_kvW {a : Addr} {F : Addr → List (Key × D) → Prop} : kvW (.ref a) ω F = optW (dkOf (ω a)) (F a) := rfl
theorem x_dkOf1 {kvs : List (Key × D)} : dkOf (some (.dk kvs)) = some kvs := rfl
theorem x_dkOf2 {o : Obj} {xs : List (Key × V)} {kvs : List (Key × D)} : dkOf (some (.fk o xs kvs)) = some kvs := rfl
theorem x_dg1W {x y : D} {F : Option D → Prop} : dg1W x y ω F = kvW x ω fun _ kvs => optW (keyD y) fun k => F (valD kvs k) := rfl
theorem x_keyS {s : List Nat} : keyD (.str s) = some (.inr (sOf s)) := rfl
theorem x_keyI {i : Int} : keyD (.int i) = some (.inl i) := rfl
theorem x_tab1 {W : WPX} {vs : List V} {ds : List D} {hd : ∀ H, RepL K H vs ds} {r : List (MT K)} {F : MT K → Prop} : tabW (MT.mk c W vs ds hd :: r) c F = F (MT.mk c W vs ds hd) := by
  show ((c = c ∧ F _) ∨ (c ≠ c ∧ _)) = _
  simp
theorem x_frzW {a : Addr} {o : Obj} {xs : List (Key × V)} {kvs : List (Key × D)} {F : Addr → Obj → List (Key × V) → List (Key × D) → Prop} : frzW (.ref a) (ω.set a (.fk o xs kvs)) F = F a o xs kvs := by
  unfold frzW refW
  simp only [Om.set_same]
theorem x_dnewK : (bDnewK : BE K).w ρ ω Φ Ψ = ∀ p, ω p = none → Φ (.ref p) (ω.set p (.dk [])) := rfl
theorem x_bdget : (bDget A B).w ρ ω Φ Ψ = A.w ρ ω (fun x ω1 => B.w ρ ω1 (fun y ω2 => dgetW x y ω2 fun r => optW r fun d => Φ d ω2) Ψ) Ψ := rfl
theorem x_dgetW1 {a : Addr} {s : List Nat} {F : Option D → Prop} : dgetW (.ref a) (.str s) ω F = optW (dkOf (ω a)) fun kvs => F (valD kvs (.inr (sOf s))) := rfl
theorem x_dgetW2 {a : Addr} {i : Int} {F : Option D → Prop} : dgetW (.ref a) (.int i) ω F = optW (dkOf (ω a)) fun kvs => F (valD kvs (.inl i)) := rfl
theorem x_bdput : (bsDput A B C').w ρ ω k = C'.w ρ ω (fun d ω1 => A.w ρ ω1 (fun x ω2 => B.w ρ ω2 (fun y ω3 => dputK x y d ω3 fun ω4 => k.nx ρ ω4) fun x ω1 => k.xc x ρ ω1) fun x ω1 => k.xc x ρ ω1) fun x ω1 => k.xc x ρ ω1 := rfl
theorem x_dputK1 {a : Addr} {i : Int} {d : D} {F : Om → Prop} : dputK (.ref a) (.int i) d ω F = cK (ω a) fun kvs => NeedW (kvs.length < 16777216) (F (ω.set a (.dk (putD kvs (.inl i) d)))) := rfl
theorem x_dputK2 {a : Addr} {s : List Nat} {d : D} {F : Om → Prop} : dputK (.ref a) (.str s) d ω F = cK (ω a) fun kvs => NeedW (kvs.length < 16777216) (F (ω.set a (.dk (putD kvs (.inr (sOf s)) d)))) := rfl
theorem x_lenK {a : Addr} : (cLenK : CB K).w [.ref a] ω Φ = cK (ω a) fun kvs => Φ (.int kvs.length) ω := rfl
theorem x_listK0 {d : D} : (cListK false : CB K).w [d] ω Φ = kvW d ω fun _ kvs => Φ (.lst (kvs.map fun p => kD p.1)) ω := by
  show (kvW d ω fun _ kvs => if false = true then _ else _) = _
  simp
theorem x_sortS0 {d : D} : (cSortS false : CB K).w [d] ω Φ = optW (lstOf ω d) fun us => optW (strsOf us) fun ts => NeedW (ts.length < 64) (∀ l : List (List Nat), l.Perm ts → (l.Pairwise fun x y => ltS y x = false) → Φ (.lst (l.map .str)) ω) := by
  show (optW (lstOf ω d) fun us => optW (strsOf us) fun ts => NeedW (ts.length < 64) (∀ l : List (List Nat), l.Perm ts → (l.Pairwise fun x y => ltS y x = false) → if false = true then _ else _)) = _
  simp
theorem w_lock {a : Addr} {kvs : List (Key × D)} (h : ω a = some (.dk kvs)) (q : ∀ o xs, E.w ρ (ω.set a (.fk o xs kvs)) (fun e ω2 => ω2 a = some (.fk o xs kvs) ∧ Φ e (ω2.set a (.dk kvs))) fun _ _ => False) : (bLock E).w ρ ω Φ Ψ := ⟨a, kvs, h, q⟩
end
end
end T
namespace G
open PySem L2 T
section
structure HRow where
  k : List Nat
  a : Addr
  es : List (Int × Option (List Nat))
structure HSt where
  d : Addr
  rs : List HRow
def hDk (rs : List HRow) : List (Key × D) := rs.map fun r => (.inr (sOf r.k), .ref r.a)
def eDk (es : List (Int × Option (List Nat))) : List (Key × D) := es.map fun p => (.inl p.1, vD p.2)
structure HandR (ω : Om) (a : Addr) (h : HSt) : Prop where
  i : ω a = some (.ins "Hand" [("kept", .ref h.d)])
  d : ω h.d = some (.dk (hDk h.rs))
  r : ∀ r ∈ h.rs, ω r.a = some (.dk (eDk r.es))
  nd : (h.d :: h.rs.map (·.a)).Nodup
  nk : (h.rs.map (·.k)).Nodup
  ns : ∀ r ∈ h.rs, (r.es.map (·.1)).Nodup ∧ r.es ≠ []
  z : h.rs.length ≤ 1000000 ∧ ∀ r ∈ h.rs, r.es.length ≤ 1000000
def HA (a : Addr) (h : HSt) (b : Addr) : Prop := b = a ∨ b = h.d ∨ ∃ r ∈ h.rs, b = r.a
def hEnts (h : HSt) : List Ent := (h.rs.map fun r => r.es.map fun p => ((r.k, p.1, p.2) : Ent)).flatten
def putE (es : List Ent) (e : Ent) : List Ent := (es.filter fun x => !decide (x.1 = e.1 ∧ x.2.1 = e.2.1)) ++ [e]
def HRows (h : HSt) (L : List Ent) : Prop := L.Perm (hEnts h) ∧ L.Pairwise fun a b => aheadB a b = true
def inH (lo : List Nat) (hi : Option (List Nat)) (e : Ent) : Bool := !ltS e.1 lo && (match hi with | none => true | some h => ltS e.1 h)
def W_Hand___init__ : WP := fun ds ω Φ => ∃ a, ds = [.ref a] ∧ ω a = some (.ins "Hand" []) ∧ ∀ d, ω d = none → Φ .non ((ω.set d (.dk [])).set a (.ins "Hand" [("kept", .ref d)]))
def W_Hand_put : WP := fun ds ω Φ => ∃ (a : Addr) (h : HSt) (e : Ent), ds = [.ref a, .str e.1, .int e.2.1, vD e.2.2] ∧ HandR ω a h ∧ h.rs.length < 1000000 ∧ (∀ r ∈ h.rs, r.es.length < 1000000) ∧
  ∀ ω' h', HandR ω' a h' → (hEnts h').Perm (putE (hEnts h) e) → h'.rs.length ≤ h.rs.length + 1 → (∀ n, (∀ r ∈ h.rs, r.es.length ≤ n) → ∀ r ∈ h'.rs, r.es.length ≤ n + 1) → (∀ b, HA a h' b → HA a h b ∨ ω b = none) → (∀ b, ¬ HA a h b → ω b ≠ none → ω' b = ω b) → Φ .non ω'
def W_Hand_find : WP := fun ds ω Φ => ∃ (a : Addr) (h : HSt) (k : List Nat) (s : Int), ds = [.ref a, .str k, .int s] ∧ HandR ω a h ∧ ∀ ω' r, Grow ω ω' → Newest (hEnts h) k s r → Φ (oE r) ω'
def W_Hand_greatest : WP := fun ds ω Φ => ∃ (a : Addr) (h : HSt), ds = [.ref a] ∧ HandR ω a h ∧ ∀ m : Int, (hEnts h = [] → m = 0) → (hEnts h ≠ [] → ∃ e ∈ hEnts h, e.2.1 = m) → (∀ e ∈ hEnts h, e.2.1 ≤ m) → Φ (.int m) ω
def W_Hand_rows : WP := fun ds ω Φ => ∃ (a : Addr) (h : HSt), ds = [.ref a] ∧ HandR ω a h ∧ h.rs.length < 64 ∧ (hEnts h).length ≤ 10000000 ∧ ∀ ω' r L, Grow ω ω' → ω r = none → ω' r = some (.lst (L.map eD)) → HRows h L → Φ (.ref r) ω'
def W_Hand_between : WP := fun ds ω Φ => ∃ (a : Addr) (h : HSt) (lo : List Nat) (hi : Option (List Nat)), ds = [.ref a, .str lo, vD hi] ∧ HandR ω a h ∧ h.rs.length < 64 ∧ (hEnts h).length ≤ 10000000 ∧ ∀ ω' r L, Grow ω ω' → ω r = none → HRows h L → ω' r = some (.lst ((L.filter (inH lo hi)).map eD)) → Φ (.ref r) ω'
end
section
def cl_Hand : List CCl := [("Hand", ["kept"], [("__init__", "Hand"), ("put", "Hand"), ("find", "Hand"), ("many", "Hand"), ("greatest", "Hand"), ("rows", "Hand"), ("between", "Hand"), ("clear", "Hand")])]
def b_Hand___init__ {K : Fg} : BS K :=
  bsFld cl_Hand "kept" (bVar 0) (bDnewK)
theorem len_Hand___init__ : ∀ ds ω Φ, W_Hand___init__ ds ω Φ → ds.length = 1 := by
  intro ds ω Φ h
  first | (obtain ⟨rfl, _⟩ := h; rfl) | (obtain ⟨_, rfl, _⟩ := h; rfl) | (obtain ⟨_, _, rfl, _⟩ := h; rfl) | (obtain ⟨_, _, _, rfl, _⟩ := h; rfl) | (obtain ⟨_, _, _, _, rfl, _⟩ := h; rfl) | (obtain ⟨_, _, _, _, _, rfl, _⟩ := h; rfl) | (obtain ⟨_, _, _, _, _, _, rfl, _⟩ := h; rfl) | (obtain ⟨_, _, _, _, _, _, _, rfl, _⟩ := h; rfl) | (obtain ⟨_, _, _, _, _, _, _, _, rfl, _⟩ := h; rfl) | (obtain ⟨_, _, _, _, _, _, _, _, _, rfl, _⟩ := h; rfl) | exact T.len_of h
def b_Hand_put {K : Fg} : BS K :=
  bsDput (bDsetd (bFld cl_Hand "kept" (bVar 0)) (bVar 1) (bDnewK)) (bVar 2) (bVar 3)
theorem len_Hand_put : ∀ ds ω Φ, W_Hand_put ds ω Φ → ds.length = 4 := by
  intro ds ω Φ h
  obtain ⟨_, _, _, rfl, _⟩ := h; rfl
def b_Hand_find {K : Fg} : BS K :=
  bsSeq (bsAsg (bDget2 (bFld cl_Hand "kept" (bVar 0)) (bVar 1) (bDnewK)) (bgN 3)) (bsSeq (bsAsg (bCBK cMaxD (baC (bLock (bLc false (biKeysF (bVar 3)) (bgN 5) (btC (bOp (oLe) (bVar 5) (bVar 2))) (bVar 5) [5] mon_n (only_n (by decide)))) (baN)) (baC (bNon) baN)) (bgN 4)) (bsSeq (bsIf (btC (bOp (oIs false) (bVar 4) (bNon))) (bsRet (bNon)) (bsNext)) (bsRet (bTup (baC (bVar 1) (baC (bVar 4) (baC (bDget (bVar 3) (bVar 4)) (baN))))))))
theorem len_Hand_find : ∀ ds ω Φ, W_Hand_find ds ω Φ → ds.length = 3 := by
  intro ds ω Φ h
  obtain ⟨_, _, _, _, rfl, _⟩ := h; rfl
def b_Hand_greatest {K : Fg} : BS K :=
  bsRet (bCBK cMaxD (baC (bLock (bLc false (biVals (bFld cl_Hand "kept" (bVar 0))) (bgN 1) (btYes) (bCB cMaxL (baC (bCB (cListK false) (baC (bVar 1) (baN))) (baN))) [1] mon_n (only_n (by decide)))) (baN)) (baC (bInt 0) baN))
theorem len_Hand_greatest : ∀ ds ω Φ, W_Hand_greatest ds ω Φ → ds.length = 1 := by
  intro ds ω Φ h
  obtain ⟨_, _, rfl, _⟩ := h; rfl
def b_Hand_rows {K : Fg} : BS K :=
  bsSeq (bsAsg (bLst true (baN)) (bgN 1)) (bsSeq (bsFor (biSeq (bCB (cSortS false) (baC (bCB (cListK false) (baC (bFld cl_Hand "kept" (bVar 0)) (baN))) (baN)))) (bgN 2) (bsFor (biSeq (bSortK false true (baC (bListItems (bDget (bFld cl_Hand "kept" (bVar 0)) (bVar 2))) (baN)) (kwL (K := K) (bOp oIx (bVar 0) (bInt 0)) 1 []))) (bgT 2 (bgsC (bgN 3) (bgsC (bgN 4) (bgsN)))) (bsDrop (bM "list" (by decide) m_append (bVar 1) (baC (bTup (baC (bVar 2) (baC (bVar 3) (baC (bVar 4) (baN))))) (baN)))))) (bsRet (bVar 1)))
theorem len_Hand_rows : ∀ ds ω Φ, W_Hand_rows ds ω Φ → ds.length = 1 := by
  intro ds ω Φ h
  obtain ⟨_, _, rfl, _⟩ := h; rfl
def b_Hand_between {K : Fg} : BS K :=
  bsRet (bLc true (biSeq (bMeth [MT.mk "Hand" (wX W_Hand_rows) (([] : List V).drop 0) [] (fun _ => .nil)] "rows" (bVar 0) (baN))) (bgN 3) (btAnd (btC (bOp (oLe) (bVar 1) (bOp oIx (bVar 3) (bInt 0)))) (btOr (btC (bOp (oIs false) (bVar 2) (bNon))) (btC (bOp (oLt) (bOp oIx (bVar 3) (bInt 0)) (bVar 2))))) (bVar 3) [3] mon_n (only_n (by decide)))
theorem len_Hand_between : ∀ ds ω Φ, W_Hand_between ds ω Φ → ds.length = 3 := by
  intro ds ω Φ h
  obtain ⟨_, _, _, _, rfl, _⟩ := h; rfl
end
section
def okK (m : Nat) (k : List Nat) : Prop := k.all okc = true ∧ 1 ≤ k.length ∧ k.length ≤ m
def OkV (v : Option (List Nat)) : Prop := ∀ x, v = some x → x.all okc = true ∧ x.length ≤ 40
structure OkE (e : Ent) : Prop where
  k : okK 20 e.1
  s : 1 ≤ e.2.1 ∧ e.2.1 ≤ 999999999
  v : OkV e.2.2
def Dist (es : List Ent) : Prop := es.Pairwise fun a b => ¬ (a.1 = b.1 ∧ a.2.1 = b.2.1)
def Rows (rs : List Ent) : Prop := rs ≠ [] ∧ rs.length ≤ 200 ∧ (∀ e ∈ rs, OkE e) ∧ rs.Pairwise fun a b => aheadB a b = true
def sqOf (ω : Om) : D → Option (List D)
  | .tup ds => some ds
  | d => lstOf ω d
def keysOf (rs : List Ent) : List (List Nat) := rs.map (·.1)
def sieveD (rs : List Ent) (b : Nat) : D := .tup [.int (sieveSz (keysOf rs) : Nat), .int (b : Nat)]
def runD (rs : List Ent) (b : Nat) : D := .tup [sieveD rs b, .tup (rs.map eD)]
def Marks (rs : List Ent) (b : Nat) : Prop := ∀ p, b.testBit p = markedB (keysOf rs) (sieveSz (keysOf rs)) p
end
section
def RowsW (rs : List Ent) : Prop := rs ≠ [] ∧ rs.length ≤ 2000 ∧ (∀ e ∈ rs, OkE e) ∧ rs.Pairwise fun a b => aheadB a b = true
def W_place_of : WP := fun ds ω Φ => ∃ e : Ent, ds = [eD e] ∧ Φ (.tup [.str e.1, .int (-e.2.1)]) ω
def W_sieve_for : WP := fun ds ω Φ => ∃ (L : D) (rs : List Ent), ds = [L] ∧ sqOf ω L = some (rs.map eD) ∧ rs.length ≤ 4000 ∧ ∀ b, Marks rs b → Φ (sieveD rs b) ω
def W_run_of : WP := fun ds ω Φ => ∃ (L : D) (es : List Ent), ds = [L] ∧ lstOf ω L = some (es.map eD) ∧ es.length ≤ 4000 ∧ (∀ e ∈ es, OkE e) ∧ Dist es ∧ ∀ (rs : List Ent) (b : Nat), rs.Perm es → (rs.Pairwise fun a b => aheadB a b = true) → Marks rs b → Φ (runD rs b) ω
def W_first_from : WP := fun ds ω Φ => ∃ (rs : List Ent) (k : List Nat) (s : Int), ds = [.tup (rs.map eD), .tup [.str k, .int s]] ∧ RowsW rs ∧ k.all okc = true ∧ ∀ n : Nat, n ≤ rs.length → (∀ i e, rs[i]? = some e → (i < n ↔ lt2 e.1 (-e.2.1) k s = true)) → Φ (.int (n : Nat)) ω
def W_find : WP := fun ds ω Φ => ∃ (rs : List Ent) (b : Nat) (k : List Nat) (s : Int), ds = [runD rs b, .str k, .int s] ∧ RowsW rs ∧ Marks rs b ∧ k.all okc = true ∧ k.length ≤ 1000 ∧ ∀ r, Newest rs k s r → Φ (oE r) ω
def inB (lo : List Nat) (hi : Option (List Nat)) (e : Ent) : Bool := !ltS e.1 lo && (match hi with | none => true | some h => ltS e.1 h)
def W_between : WP := fun ds ω Φ => ∃ (rs : List Ent) (b : Nat) (lo : List Nat) (hi : Option (List Nat)), ds = [runD rs b, .str lo, vD hi] ∧ RowsW rs ∧ lo.all okc = true ∧ (∀ h, hi = some h → h.all okc = true) ∧ ∀ a, ω a = none → Φ (.ref a) (ω.set a (.lst ((rs.filter (inB lo hi)).map eD)))
end
section
def b_place_of {K : Fg} : BS K :=
  bsRet (bTup (baC (bOp oIx (bVar 0) (bInt 0)) (baC (bNeg (bOp oIx (bVar 0) (bInt 1))) (baN))))
theorem len_place_of : ∀ ds ω Φ, W_place_of ds ω Φ → ds.length = 1 := by
  intro ds ω Φ h
  obtain ⟨_, rfl, _⟩ := h; rfl
def b_sieve_for {K : Fg} : BS K :=
  bsRet (bCall0 W_sieve_of (baC (bLc false (biSeq (bVar 0)) (bgN 1) (btYes) (bOp oIx (bVar 1) (bInt 0)) [1] mon_n (only_n (by decide))) (baN)))
theorem len_sieve_for : ∀ ds ω Φ, W_sieve_for ds ω Φ → ds.length = 1 := by
  intro ds ω Φ h
  obtain ⟨_, _, rfl, _⟩ := h; rfl
def b_run_of {K : Fg} : BS K :=
  bsSeq (bsAsg (bSortK false false (baC (bVar 0) (baN)) (kwF W_place_of)) (bgN 1)) (bsRet (bTup (baC (bCall0 W_sieve_for (baC (bVar 1) (baN))) (baC (bCB (cTuple) (baC (bVar 1) (baN))) (baN)))))
theorem len_run_of : ∀ ds ω Φ, W_run_of ds ω Φ → ds.length = 1 := by
  intro ds ω Φ h
  obtain ⟨_, _, rfl, _⟩ := h; rfl
def b_first_from {K : Fg} : BS K :=
  bsSeq (bsAsg (bInt 0) (bgN 2)) (bsSeq (bsAsg (bCB cLen (baC (bVar 0) (baN))) (bgN 3)) (bsSeq (bsWhile (btC (bOp (oLt) (bVar 2) (bVar 3))) (bsSeq (bsAsg (bOp (oDiv) (bOp (oAdd) (bVar 2) (bVar 3)) (bInt 2)) (bgN 4)) (bsIf (btC (bOp (oLtDD) (bCall0 W_place_of (baC (bOp oIx (bVar 0) (bVar 4)) (baN))) (bVar 1))) (bsAsg (bOp (oAdd) (bVar 4) (bInt 1)) (bgN 2)) (bsAsg (bVar 4) (bgN 3))))) (bsRet (bVar 2))))
theorem len_first_from : ∀ ds ω Φ, W_first_from ds ω Φ → ds.length = 2 := by
  intro ds ω Φ h
  obtain ⟨_, _, _, rfl, _⟩ := h; rfl
def b_find {K : Fg} : BS K :=
  bsSeq (bsAsg (bVar 0) (bgT 2 (bgsC (bgN 3) (bgsC (bgN 4) (bgsN))))) (bsSeq (bsIf (btNot (btTru (bCall0 W_may_have (baC (bVar 3) (baC (bVar 1) (baN)))))) (bsRet (bNon)) (bsNext)) (bsSeq (bsAsg (bCall0 W_first_from (baC (bVar 4) (baC (bTup (baC (bVar 1) (baC (bNeg (bVar 2)) (baN)))) (baN)))) (bgN 5)) (bsSeq (bsIf (btAnd (btC (bOp (oLt) (bVar 5) (bCB cLen (baC (bVar 4) (baN))))) (btC (bOp (oEq) (bOp oIx (bOp oIx (bVar 4) (bVar 5)) (bInt 0)) (bVar 1)))) (bsRet (bOp oIx (bVar 4) (bVar 5))) (bsNext)) (bsRet (bNon)))))
theorem len_find : ∀ ds ω Φ, W_find ds ω Φ → ds.length = 3 := by
  intro ds ω Φ h
  obtain ⟨_, _, _, _, rfl, _⟩ := h; rfl
def b_between {K : Fg} : BS K :=
  bsSeq (bsAsg (bOp oIx (bVar 0) (bInt 1)) (bgN 3)) (bsSeq (bsAsg (bCall0 W_first_from (baC (bVar 3) (baC (bTup (baC (bVar 1) (baC (bOp (oSub) (bNeg (bOp (oPow) (bInt 10) (bInt 9))) (bInt 1)) (baN)))) (baN)))) (bgN 4)) (bsSeq (bsIf (btC (bOp (oIs false) (bVar 2) (bNon))) (bsRet (bCB (cList true) (baC (bSl (oSl false) (bVar 3) (boS (bVar 4)) (boN)) (baN)))) (bsNext)) (bsRet (bCB (cList true) (baC (bSl (oSl false) (bVar 3) (boS (bVar 4)) (boS (bCB cMax2 (baC (bVar 4) (baC (bCall0 W_first_from (baC (bVar 3) (baC (bTup (baC (bVar 2) (baC (bOp (oSub) (bNeg (bOp (oPow) (bInt 10) (bInt 9))) (bInt 1)) (baN)))) (baN)))) (baN)))))) (baN))))))
theorem len_between : ∀ ds ω Φ, W_between ds ω Φ → ds.length = 3 := by
  intro ds ω Φ h
  obtain ⟨_, _, _, _, rfl, _⟩ := h; rfl
end
section
def tiersD (f d : Int) (a b c : List Int) : D := .tup [.int f, .int d, .tup [.tup (a.map .int), .tup (b.map .int), .tup (c.map .int)]]
def runN (n : Int) : List Nat := [114, 117, 110] ++ zfL (strI n) 7
def W_name_of : WP := fun ds ω Φ => ∃ n : Int, ds = [.int n] ∧ 0 ≤ n ∧ n ≤ 9999999 ∧ Φ (.str (runN n)) ω
end
section
def b_name_of {K : Fg} : BS K :=
  bsRet (bOp (oAdd) (bLit "run" [114, 117, 110] (by decide +kernel)) (bM "str" (by decide) m_zfill (bCB (cStr) (baC (bVar 0) (baN))) (baC (bInt 7) (baN))))
theorem len_name_of : ∀ ds ω Φ, W_name_of ds ω Φ → ds.length = 1 := by
  intro ds ω Φ h
  obtain ⟨_, rfl, _⟩ := h; rfl
end
end G
namespace T
open PySem L2
section
section
variable {K : Fg} {ω : Om} {Φ : D → Om → Prop}
def isBig : D → Bool
  | .ref _ => true
  | .lst _ => true
  | .tup _ => true
  | _ => false
theorem eq_Rs {d e d' e' : D} (b : isBig d = true) (h : Rs ω 3 d d') (g : Rs ω 3 e e') (hd : dpt d' ≤ 64) (ge : dpt e' ≤ 64) : (oEq : O2 K).w d e ω Φ = Φ (.bl (deq d' e')) ω := by
  have := eqDW_Rs (neg := false) (Φ := Φ) h g hd ge
  rw [if_neg Bool.false_ne_true] at this
  rw [← this]
  cases d <;> first | (cases b; done) | (cases e <;> rfl)
theorem ne_Rs {d e d' e' : D} (b : isBig d = true) (h : Rs ω 3 d d') (g : Rs ω 3 e e') (hd : dpt d' ≤ 64) (ge : dpt e' ≤ 64) : (oNe : O2 K).w d e ω Φ = Φ (.bl (!deq d' e')) ω := by
  have := eqDW_Rs (neg := true) (Φ := Φ) h g hd ge
  rw [if_pos rfl] at this
  rw [← this]
  cases d <;> first | (cases b; done) | (cases e <;> rfl)
theorem rs_ref {n : Nat} {a : Addr} {ds : List D} (h : ω a = some (.lst ds)) (o : eqDL ds = true) : Rs ω (n + 1) (.ref a) (.lst ds) := by
  refine .ref h ?_
  clear h
  induction ds with
  | nil => exact .nil
  | cons d r ih =>
    simp only [eqDL, Bool.and_eq_true] at o
    exact .cons (.base o.1) (ih o.2)
theorem rs_lst {n : Nat} {d : D} {ds : List D} (h : lstOf ω d = some ds) (o : eqDL ds = true) : Rs ω (n + 1) d (.lst ds) := by
  rcases lst_two h with rfl | ⟨a, rfl, ha⟩
  · exact .base (by simp only [eqD]; exact o)
  · exact rs_ref ha o
theorem ne_same {d e : D} {ds : List D} {n : Nat} (b : isBig d = true) (h : lstOf ω d = some ds) (g : lstOf ω e = some ds) (ok : dOk n (.lst ds)) (hn : n ≤ 64) (q : Φ (.bl false) ω) : (oNe : O2 K).w d e ω Φ := by
  have o : eqDL ds = true := by have := ok.1; simp only [eqD] at this; exact this
  rw [ne_Rs b (rs_lst h o) (rs_lst g o) (Nat.le_trans ok.2 hn) (Nat.le_trans ok.2 hn), deq_refl _ ok.1]
  exact q
theorem isi_lst {d : D} {ds : List D} (h : ∃ a, d = .ref a ∧ ω a = some (.lst ds)) (q : Φ (.bl true) ω) : isW1 "list" d ω Φ := by
  obtain ⟨a, rfl, ha⟩ := h
  refine w_isW (Ty := "list") (by simp [tyD, ha]) ?_
  rw [show isT "list" "list" = true by decide]
  exact q
end
end
end T
namespace T
open PySem PyProof.Rows L2
section
theorem hd_drop {K : Fg} {vs us : List V} {ds : List D} (e : vs = us) (h : ∀ H, RepL K H us ds) : ∀ H, RepL K H vs ds := by subst e; exact h
section
variable {K : Fg} {l : List CCl} {f g m c e : Str} {A B : BE K} {As : BA K} {ρ : En} {ω : Om} {Φ : D → Om → Prop} {Ψ : Exn → Om → Prop} {k : KD}
theorem y_fld : (bFld l f A).w ρ ω Φ Ψ = A.w ρ ω (fun x ω1 => refW x fun a => insW (ω1 a) fun c fs => NeedW (hasF l c f = true) (optW (fs.lookup f) fun d => Φ d ω1)) Ψ := rfl
theorem y_sfld : (bsFld l f A B).w ρ ω k = B.w ρ ω (fun d ω1 => A.w ρ ω1 (fun x ω2 => refW x fun a => insW (ω2 a) fun c fs => NeedW (hasF l c f = true) (NeedW (fs.length < 1000) (k.nx ρ (ω2.set a (.ins c (putFD f d fs)))))) fun x ω1 => k.xc x ρ ω1) fun x ω1 => k.xc x ρ ω1 := rfl
theorem y_meth {tab : List (MT K)} : (bMeth tab m A As).w ρ ω Φ Ψ = A.w ρ ω (fun x ω1 => refW x fun a => insW (ω1 a) fun c fs => NeedW (fs.lookup m = none) (tabW tab c fun e => As.w ρ ω1 (fun ds ω2 => e.W (.ref a :: (ds ++ e.ds)) ω2 Φ Ψ) Ψ)) Ψ := rfl
theorem y_lk0 {d : D} {r : List (Str × D)} : List.lookup f ((f, d) :: r) = some d := by simp [List.lookup]
theorem y_lk1 {d : D} {r : List (Str × D)} (h : f ≠ g) : List.lookup f ((g, d) :: r) = List.lookup f r := by
  have : (f == g) = false := beq_eq_false_iff_ne.mpr h
  simp only [List.lookup, this]
theorem y_lkn : List.lookup f ([] : List (Str × D)) = none := rfl
theorem y_pt0 {d x : D} {r : List (Str × D)} : putFD f d ((f, x) :: r) = (f, d) :: r := by simp [putFD]
theorem y_pt1 {d x : D} {r : List (Str × D)} (h : g ≠ f) : putFD f d ((g, x) :: r) = (g, x) :: putFD f d r := by simp [putFD, h]
theorem y_ptn {d : D} : putFD f d [] = [(f, d)] := rfl
theorem y_wX {W : WP} {ds : List D} : wX W ds ω Φ Ψ = W ds ω Φ := rfl
theorem y_tab1 {W : WPX} {vs : List V} {ds : List D} {hd : ∀ H, RepL K H vs ds} {r : List (MT K)} {F : MT K → Prop} : tabW (MT.mk c W vs ds hd :: r) c F = F (MT.mk c W vs ds hd) := x_tab1
theorem y_tab2 {W : WPX} {vs : List V} {ds : List D} {hd : ∀ H, RepL K H vs ds} {r : List (MT K)} {F : MT K → Prop} (h : e ≠ c) : tabW (MT.mk c W vs ds hd :: r) e F = tabW r e F := by
  show ((e = c ∧ F _) ∨ (e ≠ c ∧ tabW r e F)) = _
  simp [h]
theorem y_set0 {a : Addr} {x : Cell} : ω.set a x a = some x := Om.set_same
theorem y_set1 {a b : Addr} {x : Cell} (h : b ≠ a) : ω.set a x b = ω b := Om.set_ne h
theorem y_dictC {d : D} : (cDictC : CB K).w [d] ω Φ = kvW d ω fun _ kvs => ∀ p, ω p = none → Φ (.ref p) (ω.set p (.dk kvs)) := rfl
theorem y_sortK1 {d : D} : (cSortK true : CB K).w [d] ω Φ = kvW d ω fun _ kvs => optW (txtKeys kvs) fun ts => NeedW (ts.length < 64) (∀ l : List (List Nat), l.Perm ts → (l.Pairwise fun x y => ltS y x = false) → ∀ a, ω a = none → Φ (.ref a) (ω.set a (.lst (l.map .str)))) := by
  show (kvW d ω fun _ kvs => optW (txtKeys kvs) fun ts => NeedW (ts.length < 64) (∀ l : List (List Nat), l.Perm ts → (l.Pairwise fun x y => ltS y x = false) → if true = true then _ else _)) = _
  simp
theorem y_sortK0 {d : D} : (cSortK false : CB K).w [d] ω Φ = kvW d ω fun _ kvs => optW (txtKeys kvs) fun ts => NeedW (ts.length < 64) (∀ l : List (List Nat), l.Perm ts → (l.Pairwise fun x y => ltS y x = false) → Φ (.lst (l.map .str)) ω) := by
  show (kvW d ω fun _ kvs => optW (txtKeys kvs) fun ts => NeedW (ts.length < 64) (∀ l : List (List Nat), l.Perm ts → (l.Pairwise fun x y => ltS y x = false) → if false = true then _ else _)) = _
  simp
theorem y_endD {nx bk ct : En → Om → Prop} {rt : D → Om → Prop} {xc : Exn → En → Om → Prop} {i : Option Nat} : endD ⟨nx, rt, bk, ct, xc⟩ i = ⟨fun ρ ω => nx (delD ρ i) ω, rt, fun ρ ω => bk (delD ρ i) ω, fun ρ ω => ct (delD ρ i) ω, fun _ _ _ => False⟩ := rfl
theorem w_sifD {T1 : BT K} {S S2 : BS K} {nx bk ct : En → Om → Prop} {rt : D → Om → Prop} {xc : Exn → En → Om → Prop} (c : Prop) [Decidable c] (h : ∀ F : Bool → Om → Prop, F (decide c) ω → T1.w ρ ω F fun x ω1 => xc x ρ ω1) (q : c → S.w ρ ω ⟨nx, rt, bk, ct, xc⟩) (q2 : ¬ c → S2.w ρ ω ⟨nx, rt, bk, ct, xc⟩) : (bsIf T1 S S2).w ρ ω ⟨nx, rt, bk, ct, xc⟩ := by
  refine h _ ?_
  by_cases z : c
  · rw [decide_eq_true z]; exact iteT (q z)
  · rw [decide_eq_false z]; exact iteF (q2 z)
theorem insW_at {o : Option Cell} {fs : List (Str × D)} {F : Str → List (Str × D) → Prop} (h : o = some (.ins c fs)) (q : F c fs) : insW o F := by rw [h]; exact q
theorem cK_at {o : Option Cell} {kvs : List (Key × D)} {F : List (Key × D) → Prop} (h : o = some (.dk kvs)) (q : F kvs) : cK o F := by rw [h]; exact q
theorem cL_at {o : Option Cell} {ds : List D} {F : List D → Prop} (h : o = some (.lst ds)) (q : F ds) : cL o F := by rw [h]; exact q
theorem tyL_at {o : Option Cell} {ds : List D} {P : Prop} (h : o = some (.lst ds)) (q : P) : NeedW (tyC o = "list") P := by rw [h]; exact ⟨rfl, q⟩
theorem tyK_at {o : Option Cell} {kvs : List (Key × D)} {P : Prop} (h : o = some (.dk kvs)) (q : P) : NeedW (tyC o = "dict") P := by rw [h]; exact ⟨rfl, q⟩
theorem kv_at {o : Option Cell} {kvs : List (Key × D)} {F : List (Key × D) → Prop} (h : o = some (.dk kvs)) (q : F kvs) : optW (dkOf o) F := by rw [h]; exact q
end
end
end T
namespace T
open PySem PySem.Spec PyProof.Rows L2
section
def rDk (neg : Bool) : R2 := fun x y H Q => ∃ a b ks ls, x = .ref a ∧ y = .ref b ∧ H a = some (.dK ks) ∧ H b = some (.dK ls) ∧
  ((ks.length = ls.length ∧ (∀ p ∈ ks, valV ls p.1 = some p.2 ∧ flatB p.2 = true) ∧ Q (.bl (!neg)) H) ∨ (ks.length ≠ ls.length ∧ Q (.bl neg) H))
end
section
def rRem : V → List V → Hp → VK → Prop := fun x vs H Q => ∃ l, x = .ref l ∧ ((∃ (ns : List Int) (k : Int), vs = [.int k] ∧ H l = some (.lst (ns.map V.int)) ∧ k ∈ ns ∧ Q .non (upd H l (.lst ((ns.erase k).map V.int)))) ∨
  ∃ (ns : List Str) (k : Str), vs = [.str k] ∧ H l = some (.lst (ns.map V.str)) ∧ k ∈ ns ∧ Q .non (upd H l (.lst ((ns.erase k).map V.str))))
section
variable {K : Fg}
theorem erase_sOf (s : List Nat) : ∀ ts : List (List Nat), (ts.map sOf).erase (sOf s) = (ts.erase s).map sOf
  | [] => rfl
  | t :: ts => by
    by_cases e : t = s
    · subst e
      rw [List.map_cons, List.erase_cons_head, List.erase_cons_head]
    · rw [List.map_cons, List.erase_cons_tail (by rw [beq_iff_eq]; intro z; have := congrArg cs z; rw [cs_sOf2, cs_sOf2] at this; exact e this), erase_sOf s ts, List.erase_cons_tail (by rw [beq_iff_eq]; exact e)]; rfl
def m_remove : BM K where
  r := rRem
  w := fun x xs ω Φ => match x, xs with
    | .ref a, [.int k] => cL (ω a) fun ds => optW (intsOf ds) fun ns => NeedW (k ∈ ns) (Φ .non (ω.set a (.lst ((ns.erase k).map .int))))
    | .ref a, [.str k] => cL (ω a) fun ds => optW (strsOf ds) fun ns => NeedW (k ∈ ns) (Φ .non (ω.set a (.lst ((ns.erase k).map .str))))
    | _, _ => False
  ok := fun z x xs d ds Q Φ h k r rs q => by
    split at h
    · cases r
      rename_i k'
      obtain ⟨es, hc, h⟩ := cL_iff.mp h
      obtain ⟨ns, h2, h⟩ := optW_iff.mp h
      obtain ⟨y, rfl, ry⟩ := rep1 rs
      cases ry
      obtain ⟨_, ys, g1, g2⟩ := k.cell _ _ hc
      rw [intsOf_eq h2] at g2
      rw [RepL.ints g2] at g1
      have t := k.put (o := .lst ((ns.erase k').map V.int)) (c' := .lst ((ns.erase k').map .int)) hc ⟨_, upd_same, RepL.of_ints _⟩
      exact ⟨_, rfl, .inl ⟨ns, k', rfl, g1, h.1, q _ _ _ t .non h.2⟩⟩
    · cases r
      rename_i k'
      obtain ⟨es, hc, h⟩ := cL_iff.mp h
      obtain ⟨ns, h2, h⟩ := optW_iff.mp h
      obtain ⟨y, rfl, ry⟩ := rep1 rs
      cases ry
      obtain ⟨_, ys, g1, g2⟩ := k.cell _ _ hc
      rw [strsOf_eq h2] at g2
      rw [RepL.strs g2] at g1
      have t := k.put (o := .lst (((ns.erase k').map sOf).map V.str)) (c' := .lst ((ns.erase k').map .str)) hc ⟨_, upd_same, RepL.of_strs _⟩
      refine ⟨_, rfl, .inr ⟨ns.map sOf, sOf k', rfl, g1, List.mem_map.mpr ⟨k', h.1, rfl⟩, ?_⟩⟩
      rw [erase_sOf]
      exact q _ _ _ t .non h.2
    · exact h.elim
theorem y_remI {ω : Om} {Φ : D → Om → Prop} {a : Addr} {k : Int} : (m_remove : BM K).w (.ref a) [.int k] ω Φ = cL (ω a) fun ds => optW (intsOf ds) fun ns => NeedW (k ∈ ns) (Φ .non (ω.set a (.lst ((ns.erase k).map .int)))) := rfl
end
end
end T
namespace T
open PySem PyProof.Rows L2
section
section
variable {X : Cx} {W : WX} {x y : Str} {e : Expr} {es : List Expr} {As : BA X.K} {p pos : Pos}
theorem P_callA {k : Nat} {ps : List Str} {Wf : WP} (F : OkP X.prog X.w X.K X.mg X.base k (y, none) ps Wf) (hr : Room k X.A) (hm : X.mg x = some (.ref (He.ga X.K x))) (al : (He.ga X.K x == He.ga X.K y) = true) (hk : PySem.W.keepIn X.K (.ref (He.ga X.K y)) = true)
    (ha : PA X (e :: es) (As.t W)) (hg : Gl X x := by rfl) (hdb : (x == ("__debug__" : Str)) = false := by decide) (he : starEach (e :: es) X.env = (false, eval e X.env) :: starEach es X.env := by rfl) (hpl : (backTo pos (starEach es X.env)).any (·.1) = false := by rfl) :
    PE X (.Call (.Name x p) (e :: es) [] pos) ((bCall0 Wf As).t W) := by
  obtain ⟨fd, F1, F2, _⟩ := F
  rw [beq_iff_eq.mp al] at hm
  exact pe_call F1 hr hg hm hk F2 .nil pass0 ha hdb he hpl
end
end
end T
namespace G
open PySem L2 T
section
def handF (ha : Addr) : Cell := .ins "InHand" [("hand", .ref ha)]
def runF (n : Int) (rs : List Ent) (b : Nat) : Cell := .ins "InRun" [("number", .int n), ("run", runD rs b)]
def mayB (rs : List Ent) (b : Nat) (k : List Nat) : Bool := (placesOf k (sieveSz (keysOf rs) : Nat)).all fun x => b.testBit x.toNat
def hasKB (es : List Ent) (k : List Nat) : Prop := ∃ e ∈ es, e.1 = k ∧ e.2.1 ≤ 999999999
structure OkHand (ω : Om) (ha : Addr) (h : HSt) : Prop where
  r : HandR ω ha h
  n : h.rs.length < 64
  z : (hEnts h).length ≤ 10000000
def W_Part_called : WP := fun ds ω Φ => ∃ d, ds = [d] ∧ Φ (.str []) ω
def W_Part_says : WP := fun ds ω Φ => ∃ d k, ds = [d, k] ∧ Φ (.bl false) ω
def W_Part_find : WP := fun ds ω Φ => ∃ d k s, ds = [d, k, s] ∧ Φ .non ω
def W_Part_between : WP := fun ds ω Φ => ∃ d lo hi, ds = [d, lo, hi] ∧ ∀ r, ω r = none → Φ (.ref r) (ω.set r (.lst []))
def W_InHand___init__ : WP := fun ds ω Φ => ∃ a ha, ds = [.ref a, .ref ha] ∧ ω a = some (.ins "InHand" []) ∧ Φ .non (ω.set a (handF ha))
def W_InHand_called : WP := fun ds ω Φ => ∃ d, ds = [d] ∧ Φ (.str [104, 97, 110, 100]) ω
def W_InHand_says : WP := fun ds ω Φ => ∃ (a ha : Addr) (h : HSt) (k : List Nat), ds = [.ref a, .str k] ∧ ω a = some (handF ha) ∧ HandR ω ha h ∧ ∀ (b : Bool) ω', Grow ω ω' → (b = true ↔ hasKB (hEnts h) k) → Φ (.bl b) ω'
def W_InHand_find : WP := fun ds ω Φ => ∃ (a ha : Addr) (h : HSt) (k : List Nat) (s : Int), ds = [.ref a, .str k, .int s] ∧ ω a = some (handF ha) ∧ HandR ω ha h ∧ ∀ ω' r, Grow ω ω' → Newest (hEnts h) k s r → Φ (oE r) ω'
def W_InHand_between : WP := fun ds ω Φ => ∃ (a ha : Addr) (h : HSt) (lo : List Nat) (hi : Option (List Nat)), ds = [.ref a, .str lo, vD hi] ∧ ω a = some (handF ha) ∧ OkHand ω ha h ∧ ∀ ω' r L, Grow ω ω' → ω r = none → HRows h L → ω' r = some (.lst ((L.filter (inH lo hi)).map eD)) → Φ (.ref r) ω'
def W_InRun___init__ : WP := fun ds ω Φ => ∃ (a : Addr) (n : Int) (rs : List Ent) (b : Nat), ds = [.ref a, .int n, runD rs b] ∧ ω a = some (.ins "InRun" []) ∧ Φ .non (ω.set a (runF n rs b))
def W_InRun_called : WP := fun ds ω Φ => ∃ (a : Addr) (n : Int) (rs : List Ent) (b : Nat), ds = [.ref a] ∧ ω a = some (runF n rs b) ∧ 0 ≤ n ∧ n ≤ 9999999 ∧ Φ (.str (runN n)) ω
def W_InRun_says : WP := fun ds ω Φ => ∃ (a : Addr) (n : Int) (rs : List Ent) (b : Nat) (k : List Nat), ds = [.ref a, .str k] ∧ ω a = some (runF n rs b) ∧ Φ (.bl (mayB rs b k)) ω
def W_InRun_find : WP := fun ds ω Φ => ∃ (a : Addr) (n : Int) (rs : List Ent) (b : Nat) (k : List Nat) (s : Int), ds = [.ref a, .str k, .int s] ∧ ω a = some (runF n rs b) ∧ RowsW rs ∧ Marks rs b ∧ k.all okc = true ∧ k.length ≤ 1000 ∧ ∀ r, Newest rs k s r → Φ (oE r) ω
def W_InRun_between : WP := fun ds ω Φ => ∃ (a : Addr) (n : Int) (rs : List Ent) (b : Nat) (lo : List Nat) (hi : Option (List Nat)), ds = [.ref a, .str lo, vD hi] ∧ ω a = some (runF n rs b) ∧ RowsW rs ∧ Marks rs b ∧ lo.all okc = true ∧ (∀ h, hi = some h → h.all okc = true) ∧ ∀ r, ω r = none → Φ (.ref r) (ω.set r (.lst ((rs.filter (inB lo hi)).map eD)))
end
section
abbrev k_LAST_STAMP {K : Fg} : BE K := bCon (.int 999999999) (.int 999999999) (fun _ => .int _)
def cl_InHand : List CCl := [("InHand", ["hand"], [("called", "InHand"), ("says", "InHand"), ("find", "InHand"), ("between", "InHand"), ("__init__", "InHand")])]
def cl_InRun : List CCl := [("InRun", ["number", "run"], [("called", "InRun"), ("says", "InRun"), ("find", "InRun"), ("between", "InRun"), ("__init__", "InRun")])]
def b_Part_called {K : Fg} : BS K :=
  bsRet (bLit "" [] (by decide +kernel))
theorem len_Part_called : ∀ ds ω Φ, W_Part_called ds ω Φ → ds.length = 1 := by
  intro ds ω Φ h
  first | (obtain ⟨rfl, _⟩ := h; rfl) | (obtain ⟨_, rfl, _⟩ := h; rfl) | (obtain ⟨_, _, rfl, _⟩ := h; rfl) | (obtain ⟨_, _, _, rfl, _⟩ := h; rfl) | (obtain ⟨_, _, _, _, rfl, _⟩ := h; rfl) | (obtain ⟨_, _, _, _, _, rfl, _⟩ := h; rfl) | (obtain ⟨_, _, _, _, _, _, rfl, _⟩ := h; rfl) | (obtain ⟨_, _, _, _, _, _, _, rfl, _⟩ := h; rfl) | (obtain ⟨_, _, _, _, _, _, _, _, rfl, _⟩ := h; rfl) | (obtain ⟨_, _, _, _, _, _, _, _, _, rfl, _⟩ := h; rfl) | exact T.len_of h
def b_Part_says {K : Fg} : BS K :=
  bsRet (bBl false)
theorem len_Part_says : ∀ ds ω Φ, W_Part_says ds ω Φ → ds.length = 2 := by
  intro ds ω Φ h
  first | (obtain ⟨rfl, _⟩ := h; rfl) | (obtain ⟨_, rfl, _⟩ := h; rfl) | (obtain ⟨_, _, rfl, _⟩ := h; rfl) | (obtain ⟨_, _, _, rfl, _⟩ := h; rfl) | (obtain ⟨_, _, _, _, rfl, _⟩ := h; rfl) | (obtain ⟨_, _, _, _, _, rfl, _⟩ := h; rfl) | (obtain ⟨_, _, _, _, _, _, rfl, _⟩ := h; rfl) | (obtain ⟨_, _, _, _, _, _, _, rfl, _⟩ := h; rfl) | (obtain ⟨_, _, _, _, _, _, _, _, rfl, _⟩ := h; rfl) | (obtain ⟨_, _, _, _, _, _, _, _, _, rfl, _⟩ := h; rfl) | exact T.len_of h
def b_Part_find {K : Fg} : BS K :=
  bsRet (bNon)
theorem len_Part_find : ∀ ds ω Φ, W_Part_find ds ω Φ → ds.length = 3 := by
  intro ds ω Φ h
  first | (obtain ⟨rfl, _⟩ := h; rfl) | (obtain ⟨_, rfl, _⟩ := h; rfl) | (obtain ⟨_, _, rfl, _⟩ := h; rfl) | (obtain ⟨_, _, _, rfl, _⟩ := h; rfl) | (obtain ⟨_, _, _, _, rfl, _⟩ := h; rfl) | (obtain ⟨_, _, _, _, _, rfl, _⟩ := h; rfl) | (obtain ⟨_, _, _, _, _, _, rfl, _⟩ := h; rfl) | (obtain ⟨_, _, _, _, _, _, _, rfl, _⟩ := h; rfl) | (obtain ⟨_, _, _, _, _, _, _, _, rfl, _⟩ := h; rfl) | (obtain ⟨_, _, _, _, _, _, _, _, _, rfl, _⟩ := h; rfl) | exact T.len_of h
def b_Part_between {K : Fg} : BS K :=
  bsRet (bLst true (baN))
theorem len_Part_between : ∀ ds ω Φ, W_Part_between ds ω Φ → ds.length = 3 := by
  intro ds ω Φ h
  first | (obtain ⟨rfl, _⟩ := h; rfl) | (obtain ⟨_, rfl, _⟩ := h; rfl) | (obtain ⟨_, _, rfl, _⟩ := h; rfl) | (obtain ⟨_, _, _, rfl, _⟩ := h; rfl) | (obtain ⟨_, _, _, _, rfl, _⟩ := h; rfl) | (obtain ⟨_, _, _, _, _, rfl, _⟩ := h; rfl) | (obtain ⟨_, _, _, _, _, _, rfl, _⟩ := h; rfl) | (obtain ⟨_, _, _, _, _, _, _, rfl, _⟩ := h; rfl) | (obtain ⟨_, _, _, _, _, _, _, _, rfl, _⟩ := h; rfl) | (obtain ⟨_, _, _, _, _, _, _, _, _, rfl, _⟩ := h; rfl) | exact T.len_of h
def b_InHand___init__ {K : Fg} : BS K :=
  bsFld cl_InHand "hand" (bVar 0) (bVar 1)
theorem len_InHand___init__ : ∀ ds ω Φ, W_InHand___init__ ds ω Φ → ds.length = 2 := by
  intro ds ω Φ h
  first | (obtain ⟨rfl, _⟩ := h; rfl) | (obtain ⟨_, rfl, _⟩ := h; rfl) | (obtain ⟨_, _, rfl, _⟩ := h; rfl) | (obtain ⟨_, _, _, rfl, _⟩ := h; rfl) | (obtain ⟨_, _, _, _, rfl, _⟩ := h; rfl) | (obtain ⟨_, _, _, _, _, rfl, _⟩ := h; rfl) | (obtain ⟨_, _, _, _, _, _, rfl, _⟩ := h; rfl) | (obtain ⟨_, _, _, _, _, _, _, rfl, _⟩ := h; rfl) | (obtain ⟨_, _, _, _, _, _, _, _, rfl, _⟩ := h; rfl) | (obtain ⟨_, _, _, _, _, _, _, _, _, rfl, _⟩ := h; rfl) | exact T.len_of h
def b_InHand_called {K : Fg} : BS K :=
  bsRet (bLit "hand" [104, 97, 110, 100] (by decide +kernel))
theorem len_InHand_called : ∀ ds ω Φ, W_InHand_called ds ω Φ → ds.length = 1 := by
  intro ds ω Φ h
  first | (obtain ⟨rfl, _⟩ := h; rfl) | (obtain ⟨_, rfl, _⟩ := h; rfl) | (obtain ⟨_, _, rfl, _⟩ := h; rfl) | (obtain ⟨_, _, _, rfl, _⟩ := h; rfl) | (obtain ⟨_, _, _, _, rfl, _⟩ := h; rfl) | (obtain ⟨_, _, _, _, _, rfl, _⟩ := h; rfl) | (obtain ⟨_, _, _, _, _, _, rfl, _⟩ := h; rfl) | (obtain ⟨_, _, _, _, _, _, _, rfl, _⟩ := h; rfl) | (obtain ⟨_, _, _, _, _, _, _, _, rfl, _⟩ := h; rfl) | (obtain ⟨_, _, _, _, _, _, _, _, _, rfl, _⟩ := h; rfl) | exact T.len_of h
def b_InHand_says {K : Fg} : BS K :=
  bsRet (bOp (oIs true) (bMeth [MT.mk "Hand" (wX W_Hand_find) (([] : List V).drop 0) [] (hd_drop (us := ([] : List V)) rfl (fun _ => .nil))] "find" (bFld cl_InHand "hand" (bVar 0)) (baC (bVar 1) (baC (k_LAST_STAMP) (baN)))) (bNon))
theorem len_InHand_says : ∀ ds ω Φ, W_InHand_says ds ω Φ → ds.length = 2 := by
  intro ds ω Φ h
  obtain ⟨_, _, _, _, rfl, _⟩ := h; rfl
def b_InHand_find {K : Fg} : BS K :=
  bsRet (bMeth [MT.mk "Hand" (wX W_Hand_find) (([] : List V).drop 0) [] (hd_drop (us := ([] : List V)) rfl (fun _ => .nil))] "find" (bFld cl_InHand "hand" (bVar 0)) (baC (bVar 1) (baC (bVar 2) (baN))))
theorem len_InHand_find : ∀ ds ω Φ, W_InHand_find ds ω Φ → ds.length = 3 := by
  intro ds ω Φ h
  obtain ⟨_, _, _, _, _, rfl, _⟩ := h; rfl
def b_InHand_between {K : Fg} : BS K :=
  bsRet (bMeth [MT.mk "Hand" (wX W_Hand_between) (([.str "", .non] : List V).drop 2) [] (hd_drop (us := ([] : List V)) rfl (fun _ => .nil))] "between" (bFld cl_InHand "hand" (bVar 0)) (baC (bVar 1) (baC (bVar 2) (baN))))
theorem len_InHand_between : ∀ ds ω Φ, W_InHand_between ds ω Φ → ds.length = 3 := by
  intro ds ω Φ h
  obtain ⟨_, _, _, _, _, rfl, _⟩ := h; rfl
def b_InRun___init__ {K : Fg} : BS K :=
  bsSeq (bsFld cl_InRun "number" (bVar 0) (bVar 1)) (bsFld cl_InRun "run" (bVar 0) (bVar 2))
theorem len_InRun___init__ : ∀ ds ω Φ, W_InRun___init__ ds ω Φ → ds.length = 3 := by
  intro ds ω Φ h
  obtain ⟨_, _, _, _, rfl, _⟩ := h; rfl
def b_InRun_called {K : Fg} : BS K :=
  bsRet (bCall0 W_name_of (baC (bFld cl_InRun "number" (bVar 0)) (baN)))
theorem len_InRun_called : ∀ ds ω Φ, W_InRun_called ds ω Φ → ds.length = 1 := by
  intro ds ω Φ h
  obtain ⟨_, _, _, _, rfl, _⟩ := h; rfl
def b_InRun_says {K : Fg} : BS K :=
  bsRet (bCall0 W_may_have (baC (bOp oIx (bFld cl_InRun "run" (bVar 0)) (bInt 0)) (baC (bVar 1) (baN))))
theorem len_InRun_says : ∀ ds ω Φ, W_InRun_says ds ω Φ → ds.length = 2 := by
  intro ds ω Φ h
  obtain ⟨_, _, _, _, _, rfl, _⟩ := h; rfl
def b_InRun_find {K : Fg} : BS K :=
  bsRet (bCall0 W_find (baC (bFld cl_InRun "run" (bVar 0)) (baC (bVar 1) (baC (bVar 2) (baN)))))
theorem len_InRun_find : ∀ ds ω Φ, W_InRun_find ds ω Φ → ds.length = 3 := by
  intro ds ω Φ h
  obtain ⟨_, _, _, _, _, _, rfl, _⟩ := h; rfl
def b_InRun_between {K : Fg} : BS K :=
  bsRet (bCall0 W_between (baC (bFld cl_InRun "run" (bVar 0)) (baC (bVar 1) (baC (bVar 2) (baN)))))
theorem len_InRun_between : ∀ ds ω Φ, W_InRun_between ds ω Φ → ds.length = 3 := by
  intro ds ω Φ h
  obtain ⟨_, _, _, _, _, _, rfl, _⟩ := h; rfl
end
section
def seenB (es : List Ent) (ss : List Int) (k : Nat) : Bool := decide (k = 0) || ss.any fun s => match es[k]?, es[k - 1]? with
  | some e, some n => decide (e.2.1 ≤ s) && decide (s < n.2.1)
  | _, _ => false
def seenL (es : List Ent) (ss : List Int) : List Ent := ((List.range es.length).filter (seenB es ss)).filterMap fun k => es[k]?
def grpS (gs : List (List Ent)) (e : Ent) : List (List Ent) := match gs.getLast? with
  | some (f :: g) => if f.1 = e.1 then gs.dropLast ++ [f :: g ++ [e]] else gs ++ [[e]]
  | _ => gs ++ [[e]]
def grpE (es : List Ent) : List (List Ent) := es.foldl grpS []
def dropT (es : List Ent) : List Ent := (es.reverse.dropWhile fun e => e.2.2.isNone).reverse
def leftL (es : List Ent) (ss : List Int) (low : Bool) : List Ent := (grpE es).flatMap fun g => if low = true then dropT (seenL g ss) else seenL g ss
end
section
abbrev Fs := List (List Nat × List Nat)
def fDk (fs : Fs) : List (Key × D) := fs.map fun p => (.inr (sOf p.1), .str p.2)
def getF (fs : Fs) (n : List Nat) : Option (List Nat) := (fs.find? fun p => decide (p.1 = n)).map (·.2)
def hasN (fs : Fs) (n : List Nat) : Bool := fs.any fun p => decide (p.1 = n)
def putF (fs : Fs) (n t : List Nat) : Fs := if hasN fs n = true then fs.map (fun p => if p.1 = n then (p.1, t) else p) else fs ++ [(n, t)]
def appF (fs : Fs) (n t : List Nat) : Fs := putF fs n ((getF fs n).getD [] ++ t)
structure DSt where
  fs : Fs
  last : Option Int
  torn : Int
  count : Int
  ended : Bool
def oIo : Option Int → D
  | none => .non
  | some i => .int i
def dCell (d : Addr) (s : DSt) : Cell := .ins "Disk" [("kept", .ref d), ("last", oIo s.last), ("torn", .int s.torn), ("count", .int s.count), ("ended", .bl s.ended)]
structure DiskR (ω : Om) (a d : Addr) (s : DSt) : Prop where
  i : ω a = some (dCell d s)
  d : ω d = some (.dk (fDk s.fs))
  nk : (s.fs.map (·.1)).Nodup
  t : 0 ≤ s.torn
  z : s.fs.length ≤ 1000000
def DSt.stop (s : DSt) : DSt := { s with ended := true }
def DSt.fill (s : DSt) (fs : Fs) : DSt := { s with fs := fs, count := s.count + 1 }
end
section
abbrev Deed := List Nat × Option (List Nat)
structure OkDd (d : Deed) : Prop where
  k : isKey (.str d.1) = true
  v : ∀ v, d.2 = some v → isVal (.str v) = true
def lnT (d : Deed) : List Nat := [if d.2.isSome = true then 112 else 103] ++ zfL (strI (d.1.length : Nat)) 2 ++ (d.1 ++ d.2.getD [])
def bodyT (ds : List Deed) : List Nat := (ds.map fun d => lnT d ++ [10]).flatten
structure Rec where
  s : Int
  ds : List Deed
def headT (r : Rec) : List Nat := zfL (strI r.s) 9 ++ ([32] ++ (zfL (strI (r.ds.length : Nat)) 2 ++ ([32] ++ zfL (strI ((bodyT r.ds).length : Nat)) 5))) ++ [10]
def recT (r : Rec) : List Nat := headT r ++ bodyT r.ds
structure OkRec (r : Rec) : Prop where
  s1 : 1 ≤ r.s
  s2 : r.s ≤ 999999999
  n1 : 1 ≤ r.ds.length
  n2 : r.ds.length ≤ 20
  d : ∀ d ∈ r.ds, OkDd d
def oI : Option Int → D
  | some i => .int i
  | none => .non
def hD : Option (Int × Int × Int) → D
  | some (a, b, c) => .lst [.int a, .int b, .int c]
  | none => .non
end
end G
namespace T
open PySem PySem.Spec PyProof.Rows L2
section
section
variable {K : Fg}
def biItemsA (e : BE K) : BI K where
  t := fun W => iItems (tLk (e.t W))
  w := fun ρ ω Φ Ψ => e.w ρ ω (fun x ω1 => refW x fun a => cK (ω1 a) fun kvs => ∀ o xs, Φ (kvs.map fun p => .tup [kD p.1, p.2]) (fun ω' => ω' a = some (.fk o xs kvs)) (ω1.set a (.fk o xs kvs))) Ψ
  ok := fun W ρ z σ R Φ Ψ h o r q qx => by
    refine e.ok W ρ z σ _ _ Ψ h o r (fun v z1 d t1 r1 h1 => ?_) qx
    obtain ⟨a, rfl, h2⟩ := refW_iff.mp h1
    clear h1
    cases r1
    obtain ⟨kvs, hc, h1⟩ : ∃ kvs, z1.o a = some (.dk kvs) ∧ ∀ o xs, Φ (kvs.map fun p => .tup [kD p.1, p.2]) (fun ω' => ω' a = some (.fk o xs kvs)) (z1.o.set a (.fk o xs kvs)) := by
      cases ec : z1.o a with
      | none => rw [ec] at h2; exact h2.elim
      | some c =>
        rw [ec] at h2
        cases c <;> first | exact ⟨_, rfl, h2⟩ | exact h2.elim
    obtain ⟨_, xs, g1, g2⟩ := t1.ok.cell _ _ hc
    refine .inl ⟨_, _, rfl, g1, trivial, fun ob => ⟨_, ob, xs, rfl, upd_same, ?_⟩⟩
    have t := t1.ok.put (o := .frz ob (.dK xs)) (c' := .fk ob xs kvs) hc ⟨upd_same, g2⟩
    exact q _ _ _ _ (t1.trans t) (it_items _ _ ob xs kvs) (h1 ob xs)
end
theorem x_biItemsA {K : Fg} {E : BE K} {ρ : En} {ω : Om} {Ψ : Exn → Om → Prop} {F : List D → (Om → Prop) → Om → Prop} : (biItemsA E).w ρ ω F Ψ = E.w ρ ω (fun x ω1 => refW x fun a => cK (ω1 a) fun kvs => ∀ o xs, F (kvs.map fun p => .tup [kD p.1, p.2]) (fun ω' => ω' a = some (.fk o xs kvs)) (ω1.set a (.fk o xs kvs))) Ψ := rfl
section
variable {K : Fg}
def bDget1 (o y : BE K) : BE K where
  t := fun W => tDGet1 (o.t W) (y.t W)
  w := fun ρ ω Φ Ψ => o.w ρ ω (fun d ω1 => kvW d ω1 fun _ _ => y.w ρ ω1 (fun e ω2 => dg1W d e ω2 fun r => Φ (r.getD .non) ω2) Ψ) Ψ
  ok := fun W ρ z σ Q Φ Ψ h k r q qx => by
    refine o.ok W ρ z σ _ _ Ψ h k r (fun v z1 d t1 r1 h1 => ?_) qx
    obtain ⟨a, xs, kvs, rfl, rfl, g1, _, h1⟩ := kvW_ok t1.ok r1 h1
    refine ⟨a, rfl, .inl ⟨xs, g1⟩, ?_⟩
    refine y.ok W ρ z1 σ _ _ Ψ h1 t1.ok (r.mono t1.ex) (fun u z2 e t2 r2 h2 => ?_) fun x cls d z2 t2 => qx x cls d z2 (t1.trans t2)
    have t12 := t1.trans t2
    obtain ⟨a', ys, kvs', e1, e2, g3, g4, h3⟩ := kvW_ok t2.ok (.ref a) h2
    cases e1
    obtain ⟨kk, hk, h3⟩ := optW_iff.mp h3
    refine ⟨valV ys kk, .inl ⟨ys, kk, g3, keyD_ok r2 hk, rfl⟩, ?_⟩
    rcases repK_val kk g4 with ⟨e3, e4⟩ | ⟨w, d', e3, e4, rw'⟩
    · rw [e4] at h3
      rw [e3]
      exact q _ z2 _ t12 .non h3
    · rw [e4] at h3
      rw [e3]
      exact q _ z2 _ t12 rw' h3
theorem x_dget1 {A B : BE K} {ρ : En} {ω : Om} {Φ : D → Om → Prop} {Ψ : Exn → Om → Prop} : (bDget1 A B).w ρ ω Φ Ψ = A.w ρ ω (fun d ω1 => kvW d ω1 fun _ _ => B.w ρ ω1 (fun e ω2 => dg1W d e ω2 fun r => Φ (r.getD .non) ω2) Ψ) Ψ := rfl
end
end
end T
namespace G
open PySem L2 T
section
def bitsOf (rs : List Ent) : Nat := (List.range (sieveSz (keysOf rs))).foldl (fun b p => if markedB (keysOf rs) (sieveSz (keysOf rs)) p = true then b ||| 2 ^ p else b) 0
def ordE (es : List Ent) : List Ent := es.mergeSort fun a b => !aheadB b a
def jn : List Nat := [106, 111, 117, 114, 110, 97, 108]
structure SSt where
  w : Int
  f : Int
  k : DSt
  fresh : Int
  done : Int
  a : List Int
  b : List Int
  c : List Int
  runs : List (Int × List Ent)
  hand : List Ent
  last : Int
  stamps : List Int
inductive Rs (α : Type) where
  | ok (x : α)
  | stop (k : DSt)
def Rs.bind {α β : Type} (r : Rs α) (f : α → Rs β) : Rs β := match r with
  | .ok x => f x
  | .stop k => .stop k
def runOf (runs : List (Int × List Ent)) (n : Int) : List Ent := (runs.lookup n).getD []
def SSt.nums (S : SSt) : List Int := S.a ++ S.b ++ S.c
def SSt.all (S : SSt) : List Ent := S.hand ++ (S.nums.map (runOf S.runs)).flatten
def ssOf (ss : List Int) : List Int := (ss.mergeSort fun a b => decide (a ≤ b)).eraseDups
def sortI (ns : List Int) : List Int := ns.mergeSort fun a b => decide (a ≤ b)
def SSt.bSz (S : SSt) : Nat := (S.b.map fun n => (runOf S.runs n).length).sum
def entsOf (s : Int) (ds : List Deed) : List Ent := ds.map fun d => (d.1, s, d.2)
def putH (hand : List Ent) (e : Ent) : List Ent := ordE (putE hand e)
def putsH (hand : List Ent) (es : List Ent) : List Ent := es.foldl putH hand
structure Wf0 (ks : List (List Nat)) (n : Nat) (S : SSt) : Prop where
  w : 1 ≤ S.w ∧ S.w ≤ 100000
  f : 1 ≤ S.f ∧ S.f ≤ 1000
  kk : ks.length < 64 ∧ ∀ k ∈ ks, okK 20 k
  nn : n ≤ 95
  e : ∀ e ∈ S.all, OkE e ∧ e.1 ∈ ks ∧ e.2.1 ≤ S.last
  d : Dist S.all
  z : S.all.length ≤ 20 * n
  ho : S.hand.Pairwise fun a b => aheadB a b = true
  hs : ∀ e ∈ S.hand, S.done < e.2.1
  rk : (S.runs.map (·.1)).Perm S.nums
  nd : S.nums.Nodup
  nb : ∀ x ∈ S.nums, 1 ≤ x ∧ x < S.fresh
  rr : ∀ p ∈ S.runs, RowsW p.2 ∧ ∀ e ∈ p.2, e.2.1 ≤ S.done
  dn : 0 ≤ S.done ∧ S.done ≤ S.last
  la : S.last ≤ 1000000
  lb : S.b.length ≤ 1
  lc : S.c.length ≤ 1
  st : ∀ s ∈ S.stamps, 0 ≤ s ∧ s ≤ S.last
  sl : S.stamps.length < 64
  fl : ∀ x ∈ S.nums, hasN S.k.fs (runN x) = true
  jl : ((getF S.k.fs jn).getD []).length ≤ 1500 * n
  fr : 1 ≤ S.fresh ∧ S.fresh ≤ 9999990
  al : S.a.length ≤ 99
  kz : S.k.fs.length ≤ 500000
structure Wf (ks : List (List Nat)) (n : Nat) (S : SSt) : Prop extends Wf0 ks n S where
  pf : S.fresh ≤ 5000000 + 3 * S.done
  pa : S.a.length + (if S.hand = [] then 0 else 1) ≤ n
  pk : S.k.fs.length + (if S.hand = [] then 0 else 5) ≤ 1000 + 10 * n
end
section
structure SAd where
  g : Addr
  d : Addr
  kr : Addr
  ha : Addr
  sl : Addr
  h : HSt
def sFs (A : SAd) (S : SSt) : List (Str × D) := [("ground", .ref A.g), ("width", .int S.w), ("fan", .int S.f), ("state", tiersD S.fresh S.done S.a S.b S.c), ("kept_runs", .ref A.kr), ("in_hand", .ref A.ha), ("last", .int S.last), ("stamps", .ref A.sl)]
def rDk (runs : List (Int × List Ent)) : List (Key × D) := runs.map fun p => (.inl p.1, runD p.2 (bitsOf p.2))
def Own (s : Addr) (A : SAd) (b : Addr) : Prop := b = s ∨ b = A.g ∨ b = A.d ∨ b = A.kr ∨ b = A.sl ∨ HA A.ha A.h b
structure StoreR (ω : Om) (s : Addr) (A : SAd) (S : SSt) : Prop where
  i : ω s = some (.ins "Store" (sFs A S))
  k : DiskR ω A.g A.d S.k
  r : ω A.kr = some (.dk (rDk S.runs))
  h : HandR ω A.ha A.h
  ho : HRows A.h S.hand
  l : ω A.sl = some (.lst (S.stamps.map .int))
  nd : (A.d :: A.kr :: A.h.d :: A.h.rs.map (·.a)).Nodup
structure Nxt (ω : Om) (s : Addr) (A : SAd) (ω' : Om) (A' : SAd) : Prop where
  e : A'.g = A.g ∧ A'.d = A.d ∧ A'.kr = A.kr ∧ A'.ha = A.ha ∧ A'.sl = A.sl
  own : ∀ b, HA A.ha A'.h b → Own s A b ∨ ω b = none
  off : ∀ b, ¬ Own s A b → ω b ≠ none → ω' b = ω b
def GrR (ω : Om) (s g d : Addr) (k : DSt) : Prop := (∃ x1 x2 x3 x4 x5 x6 x7, ω s = some (.ins "Store" [("ground", .ref g), ("width", x1), ("fan", x2), ("state", x3), ("kept_runs", x4), ("in_hand", x5), ("last", x6), ("stamps", x7)])) ∧ DiskR ω g d k
structure Dead (ω : Om) (s : Addr) (A : SAd) (k : DSt) (ω' : Om) : Prop where
  g : GrR ω' s A.g A.d k
  e : k.ended = true
  off : ∀ b, ¬ Own s A b → ω b ≠ none → ω' b = ω b
structure RunsAt (ω : Om) (ps : List Addr) (ns : List Int) (runs : List (Int × List Ent)) : Prop where
  len : ps.length = ns.length
  at_ : ∀ (i : Nat) p n, ps[i]? = some p → ns[i]? = some n → ω p = some (runF n (runOf runs n) (bitsOf (runOf runs n)))
end
section
def W__law_whole : WP := fun ds ω Φ => ∃ i : Int, ds = [.int i] ∧ Φ (.bl true) ω
def W__law_stream : WP := fun ds ω Φ => ∃ (c n : Int), ds = [.int c, .int n] ∧ 0 ≤ n ∧ n ≤ 1000 ∧ ∀ L : List Int, (L.length : Int) = n → (∀ x ∈ L, 0 ≤ x ∧ x < 2147483647) → ∀ r, ω r = none → Φ (.ref r) (ω.set r (.lst (L.map .int)))
def W__law_sign : WP := fun ds ω Φ => ∃ n : Int, ds = [.int n] ∧ ∀ c : Nat, okc c = true → Φ (.str [c]) ω
def W__law_text : WP := fun ds ω Φ => ∃ (x m : Int), ds = [.int x, .int m] ∧ 0 ≤ m ∧ m ≤ 100 ∧ ∀ s : List Nat, s.all okc = true → (s.length : Int) ≤ m → Φ (.str s) ω
structure Words (ws : List (List Nat)) : Prop where
  n1 : 1 ≤ ws.length
  n2 : ws.length ≤ 41
  k : ∀ w ∈ ws, okK 20 w
def W__law_keys : WP := fun ds ω Φ => ∃ (c m : Int), ds = [.int c, .int m] ∧ 0 ≤ m ∧ m ≤ 40 ∧ ∀ (ws : List (List Nat)) r, Words ws → ω r = none → Φ (.ref r) (ω.set r (.lst (ws.map .str)))
end
section
def S_abffc9 : List Nat := [32, 33, 34, 35, 36, 38, 39, 40, 41, 42, 43, 44, 45, 46, 47, 48, 49, 50, 51, 52, 53, 54, 55, 56, 57, 58, 59, 60, 61, 62, 63, 64, 65, 66, 67, 68, 69, 70, 71, 72, 73, 74, 75, 76, 77, 78, 79, 80, 81, 82, 83, 84, 85, 86, 87, 88, 89, 90, 91, 92, 93, 94, 95, 96]
theorem S_abffc9_eq : cs " !\"#$&'()*+,-./0123456789:;<=>?@ABCDEFGHIJKLMNOPQRSTUVWXYZ[\\]^_`" = S_abffc9 := by decide +kernel
theorem S_abffc9_len : S_abffc9.length = 64 := by decide +kernel
def b__law_whole {K : Fg} : BS K :=
  bsRet (bAndT (bIsi "int" (by simp) (bVar 0)) (bNotT (bIsi "bool" (by simp) (bVar 0))))
theorem len__law_whole : ∀ ds ω Φ, W__law_whole ds ω Φ → ds.length = 1 := by
  intro ds ω Φ h
  obtain ⟨_, rfl, _⟩ := h; rfl
def b__law_stream {K : Fg} : BS K :=
  bsSeq (bsAsg (bLst true (baN)) (bgN 2)) (bsSeq (bsAsg (bOp (oMod) (bVar 0) (bInt 2147483647)) (bgN 3)) (bsSeq (bsFor (biRng1 (baC (bVar 1) (baN))) (bgN 4) (bsSeq (bsAsg (bOp (oMod) (bOp (oAdd) (bOp (oAdd) (bOp (oMul) (bVar 3) (bInt 48271)) (bInt 11)) (bVar 4)) (bInt 2147483647)) (bgN 3)) (bsDrop (bM "list" (by decide) m_append (bVar 2) (baC (bVar 3) (baN)))))) (bsRet (bVar 2))))
theorem len__law_stream : ∀ ds ω Φ, W__law_stream ds ω Φ → ds.length = 2 := by
  intro ds ω Φ h
  obtain ⟨_, _, rfl, _⟩ := h; rfl
def b__law_sign {K : Fg} : BS K :=
  bsSeq (bsAsg (bLit " !\"#$&'()*+,-./0123456789:;<=>?@ABCDEFGHIJKLMNOPQRSTUVWXYZ[\\]^_`" S_abffc9 S_abffc9_eq) (bgN 1)) (bsSeq (bsAsg (bOp (oAdd) (bVar 1) (bLit "abcdefghijklmnopqrstuvwxyz{|}~" [97, 98, 99, 100, 101, 102, 103, 104, 105, 106, 107, 108, 109, 110, 111, 112, 113, 114, 115, 116, 117, 118, 119, 120, 121, 122, 123, 124, 125, 126] (by decide +kernel))) (bgN 1)) (bsRet (bOp oIx (bVar 1) (bOp (oMod) (bVar 0) (bInt 94)))))
theorem len__law_sign : ∀ ds ω Φ, W__law_sign ds ω Φ → ds.length = 1 := by
  intro ds ω Φ h
  obtain ⟨_, rfl, _⟩ := h; rfl
def b__law_text {K : Fg} : BS K :=
  bsSeq (bsAsg (bOp (oMod) (bVar 0) (bInt 4)) (bgN 2)) (bsSeq (bsIf (btC (bOp (oEq) (bOp (oMod) (bOp (oDiv) (bVar 0) (bInt 4)) (bInt 4)) (bInt 0))) (bsAsg (bOp (oMod) (bOp (oDiv) (bVar 0) (bInt 16)) (bOp (oAdd) (bVar 1) (bInt 1))) (bgN 2)) (bsNext)) (bsRet (bM "str" (by decide) m_join (bLit "" [] (by decide +kernel)) (baC (bLc false (biSeq (bFrz (bCall0 W__law_stream (baC (bOp (oDiv) (bVar 0) (bInt 5)) (baC (bCB cMin2 (baC (bVar 2) (baC (bVar 1) (baN)))) (baN)))))) (bgN 3) (btYes) (bCall0 W__law_sign (baC (bOp (oDiv) (bVar 3) (bInt 7)) (baN))) [3] mon_n (only_n (by decide))) (baN)))))
theorem len__law_text : ∀ ds ω Φ, W__law_text ds ω Φ → ds.length = 2 := by
  intro ds ω Φ h
  obtain ⟨_, _, rfl, _⟩ := h; rfl
def b__law_keys {K : Fg} : BS K :=
  bsSeq (bsAsg (bLst true (baC (bOp (oAdd) (bCall0 W__law_sign (baC (bVar 0) (baN))) (bCall0 W__law_text (baC (bOp (oDiv) (bVar 0) (bInt 94)) (baC (bInt 19) (baN))))) (baN))) (bgN 2)) (bsSeq (bsFor (biSeq (bFrz (bCall0 W__law_stream (baC (bVar 0) (baC (bVar 1) (baN)))))) (bgN 3) (bsSeq (bsAsg (bOp oIx (bVar 2) (bOp (oMod) (bOp (oDiv) (bVar 3) (bInt 4)) (bCB cLen (baC (bVar 2) (baN))))) (bgN 4)) (bsSeq (bsAsg (bOp (oMod) (bOp (oDiv) (bVar 3) (bInt 64)) (bCB cLen (baC (bVar 4) (baN)))) (bgN 5)) (bsSeq (bsAsg (bOp (oAdd) (bOp (oAdd) (bSl (oSl false) (bVar 4) (boN) (boS (bVar 5))) (bCall0 W__law_sign (baC (bOp (oDiv) (bVar 3) (bInt 2048)) (baN)))) (bSl (oSl false) (bVar 4) (boS (bOp (oAdd) (bVar 5) (bInt 1))) (boN))) (bgN 6)) (bsSeq (bsIf (btAnd (btC (bOp (oEq) (bOp (oMod) (bVar 3) (bInt 4)) (bInt 1))) (btC (bOp (oLt) (bCB cLen (baC (bVar 4) (baN))) (bInt 20)))) (bsAsg (bOp (oAdd) (bVar 4) (bCall0 W__law_sign (baC (bOp (oDiv) (bVar 3) (bInt 2048)) (baN)))) (bgN 6)) (bsNext)) (bsSeq (bsIf (btAnd (btC (bOp (oEq) (bOp (oMod) (bVar 3) (bInt 4)) (bInt 2))) (btC (bOp (oGt) (bCB cLen (baC (bVar 4) (baN))) (bInt 1)))) (bsAsg (bSl (oSl false) (bVar 4) (boN) (boS (bNeg (bInt 1)))) (bgN 6)) (bsNext)) (bsSeq (bsIf (btC (bOp (oEq) (bOp (oMod) (bVar 3) (bInt 4)) (bInt 3))) (bsAsg (bOp (oAdd) (bCall0 W__law_sign (baC (bOp (oDiv) (bVar 3) (bInt 64)) (baN))) (bCall0 W__law_text (baC (bOp (oDiv) (bVar 3) (bInt 2048)) (baC (bInt 19) (baN))))) (bgN 6)) (bsNext)) (bsIf (btC (bOp (oIn true) (bVar 6) (bVar 2))) (bsDrop (bM "list" (by decide) m_append (bVar 2) (baC (bVar 6) (baN)))) (bsNext))))))))) (bsRet (bVar 2)))
theorem len__law_keys : ∀ ds ω Φ, W__law_keys ds ω Φ → ds.length = 2 := by
  intro ds ω Φ h
  obtain ⟨_, _, rfl, _⟩ := h; rfl
end
end G
namespace T
open PySem PySem.Spec PyProof.Rows L2
section
section
variable {K : Fg}
inductive RepP (K : Fg) (H : Hp) : List (V × V) → List (D × D) → Prop
  | nil : RepP K H [] []
  | cons {v u : V} {x y : D} {ps : List (V × V)} {ds : List (D × D)} : Rep K H v x → Rep K H u y → RepP K H ps ds → RepP K H ((v, u) :: ps) ((x, y) :: ds)
theorem RepP.mono {H H' : Hp} (e : Exd H H') : ∀ {ps : List (V × V)} {ds : List (D × D)}, RepP K H ps ds → RepP K H' ps ds
  | _, _, .nil => .nil
  | _, _, .cons h g r => .cons (h.mono e) (g.mono e) (r.mono e)
end
end
section
def init0B (c : Str) (K : Fg) : Bool := PySem.W.findIn K (.ref (He.ga K c)) "__init__" == some (some (.builtin "object.__init__"))
def isoB (c : Str) (K : Fg) (d : Str) : Bool :=
  clsB K (d, [], []) && PySem.W.kitOne K (.ref (He.ga K d)) (.ref (He.ga K c)) == some true && PySem.W.findIn K (.ref (He.ga K d)) "__class__" == some (some (.builtin "object.__class__")) &&
  PySem.W.specialIn K (.builtin "object.__class__") "__get__" == some (some (.builtin "getset_descriptor.__get__")) && PySem.W.takesIn K (.builtin "object.__class__") == some true && PySem.W.mroIn K (He.ga K d) (.type "object") == some true
def isosB (c : Str) (l : List Str) (K : Fg) : Bool := l.all (isoB c K)
def rIsC (K : Fg) (c : Str) (l : List Str) : List V → Hp → VK → Prop := fun xs H Q => ∃ (a : Addr) (d : Str) (dx : Addr) (fs : List (Str × V)), xs = [.ref a, .ref (He.ga K c)] ∧ H a = some (.ins (He.ga K d) dx fs) ∧ d ∈ l ∧ Q (.bl true) H
theorem call_isC {X : Cx} {c : Str} {l : List Str} (F : isosB c l X.K = true) : CallR X (.builtin "isinstance") (rIsC X.K c l) := by
  intro pins s σ H xs us Q I r h
  obtain ⟨a, d, dx, fs, rfl, ea, hd, q⟩ := h
  have k := List.all_eq_true.mp F d hd
  unfold isoB at k
  simp only [Bool.and_eq_true, beq_iff_eq] at k
  obtain ⟨⟨⟨⟨⟨h1, h2⟩, h3⟩, h4⟩, h5⟩, h6⟩ := k
  exact call_isi pins s σ H _ us Q I r ⟨.ref a, .ref (He.ga X.K c), .ref (He.ga X.K d), .ref (He.ga X.K c), true, rfl, .own _, .base (.ins ea (clsB_cls h1) h3 h4 h5 h6), h2, q⟩
section
variable {K : Fg}
def bIsC (c : Str) (l : List Str) (A : BE K) : BE K where
  t := fun W => tCB (rIsC K c l) (tCons (A.t W) (tCons (tC (.ref (He.ga K c))) tNil))
  w := fun ρ ω Φ Ψ => A.w ρ ω (fun x ω1 => refW x fun a => insW (ω1 a) fun d fs => NeedW (d ∈ l) (Φ (.bl true) ω1)) Ψ
  ok := fun W ρ z σ Q Φ Ψ h k r q qx => by
    refine A.ok W ρ z σ _ _ Ψ h k r (fun x z1 d t1 r1 h1 => ?_) qx
    obtain ⟨a, rfl, h1⟩ := refW_iff.mp h1
    obtain ⟨c', fs, e, h1⟩ := insW_iff.mp h1
    cases r1
    obtain ⟨_, dx, vs, g1, g2⟩ := t1.ok.cell _ _ e
    exact ⟨a, c', dx, vs, rfl, g1, h1.1, q _ z1 _ t1 (.bl _) h1.2⟩
theorem x_isOwn {c : Str} {l : List Str} {A : BE K} {ρ : En} {ω : Om} {Φ : D → Om → Prop} {Ψ : Exn → Om → Prop} : (bIsC c l A).w ρ ω Φ Ψ = A.w ρ ω (fun x ω1 => refW x fun a => insW (ω1 a) fun d fs => NeedW (d ∈ l) (Φ (.bl true) ω1)) Ψ := rfl
def tMk0 (C : Addr) : TE := fun σ H Q => ∀ x dx, H x = none → H dx = none → dx ≠ x → Q (.ref x) (upd (upd H dx (.own x)) x (.ins C dx []))
def bMk0 (c : Str) : BE K where
  t := fun _ => tMk0 (He.ga K c)
  w := fun ρ ω Φ Ψ => ∀ a, ω a = none → Φ (.ref a) (ω.set a (.ins c []))
  ok := fun V ρ z σ Q Φ Ψ h k r q qx => by
    intro x dx hx hdx hne
    have n1 : NT (.own x) := fun _ w => by cases w
    have t2 : To K z ⟨z.d, upd z.h dx (.own x), z.o, z.t⟩ := by
      obtain ⟨hd0, ho⟩ := k.free hdx
      refine ⟨⟨fun a u e => (upd_ne (ne_of_none (k.fz a u e) hdx)).trans (k.fz a u e), fun a c' e => ?_, tabs_new k.tab hdx, k.tk, k.nd⟩, .refl _, fun a u e _ _ => (upd_ne (ne_of_none e hdx)).trans e, upd_kept, rfl, fun a e => .inl e, fun a e => .inl e⟩
      obtain ⟨c1, c2⟩ := k.cell a c' e
      exact ⟨c1, c2.mono (.refl _) fun u e => (upd_ne (ne_of_none e hdx)).trans e⟩
    have hx2 : upd z.h dx (.own x) x = none := (upd_ne (Ne.symm hne)).trans hx
    have t3 := t2.ok.lay (o := .ins (He.ga K c) dx []) (c := .ins c []) hx2 ⟨dx, [], upd_same, .nil⟩
    have ho : z.o x = none := (k.free hx).2
    exact q (.ref x) _ (.ref x) (t2.trans t3) (.ref x) (h x ho)
theorem x_mk0 {c : Str} {ρ : En} {ω : Om} {Φ : D → Om → Prop} {Ψ : Exn → Om → Prop} : (bMk0 c : BE K).w ρ ω Φ Ψ = ∀ a, ω a = none → Φ (.ref a) (ω.set a (.ins c [])) := rfl
end
section
variable {X : Cx} {W : WX}
theorem run_mk0 {pins : List (Addr × Obj)} {σ : L2.St} {H : Hp} {s : Shared} {Q : VK} {C : Addr} (hmk : PySem.W.makesIn X.K C = true) (hin : PySem.W.findIn X.K (.ref C) "__init__" = some (some (.builtin "object.__init__"))) (I : Inv X pins σ H s)
    (h : ∀ x dx, H x = none → H dx = none → dx ≠ x → Q (.ref x) (upd (upd H dx (.own x)) x (.ins C dx []))) :
    wpAny (model X.prog X.w) X.A (call (.ref C) []) (EP X pins σ Q) X.xe s := by
  have hq := h (s.heap.objs.size + 1) s.heap.objs.size (I.hok.fresh (Nat.le_succ _)) (I.hok.fresh (Nat.le_refl _)) (Nat.ne_of_lt (Nat.lt_succ_self _))
  have I2 := Inv.made (C := C) I
  have Y := PySem.W.makes_of (M := model X.prog X.w) I.kIn hmk
  refine wpAny_call (make_map0 I.kIn hmk hin (fun self => PySem.W.Looks.of_pure (PySem.W.oi_bind self)) ?_)
  have hx : ((s.heap.push PySem.W.emptyDict).push (PySem.W.instObj C s.heap.objs.size)).get? (s.heap.objs.size + 1) = some (PySem.W.instObj C s.heap.objs.size) := by
    have e : (s.heap.push PySem.W.emptyDict).objs.size = s.heap.objs.size + 1 := Heap.size_push ..
    rw [← e]
    exact Heap.get?_push_size _ rfl
  have t1 : PySem.W.Looks (model X.prog X.w) ((s.heap.push PySem.W.emptyDict).push (PySem.W.instObj C s.heap.objs.size)) (typeOf (.ref (s.heap.objs.size + 1))) (.ref C) := (PySem.W.Looks.ld hx).andThen .now
  have t2 : PySem.W.Looks (model X.prog X.w) ((s.heap.push PySem.W.emptyDict).push (PySem.W.instObj C s.heap.objs.size)) (isInstance (.ref (s.heap.objs.size + 1)) (.type "object")) true := t1.andThen (Y.top.keeps fun b o e => Heap.get?_push_of_some _ (Heap.get?_push_of_some _ e))
  refine codeAny_call_builtin PySem.W.oi_plain PySem.W.entry_oi (@PySem.W.check_slot (model X.prog X.w) _ _ _ "object.__init__" "object" "__init__" (.ref (s.heap.objs.size + 1)) [] [] _ PySem.W.oi_kind PySem.W.oi_split t2 (PySem.W.oi_args (.ref (s.heap.objs.size + 1))) ?_)
  rw [PySem.W.oi_run]
  exact wpAny_pure (And.intro rfl ⟨V.ref (s.heap.objs.size + 1), _, I2, rfl, hq⟩)
variable {c x : Str} {e : Expr} {A : BE X.K} {l : List Str} {cl : List CCl} {p p2 pos : Pos}
theorem P_mk0 (F : XCl X.K cl) (hy : (cl.any fun y => y.1 == c) = true) (h0 : init0B c X.K = true) (hm : X.mg c = some (.ref (He.ga X.K c))) (hg : Gl X c := by rfl) (hdb : (c == ("__debug__" : Str)) = false := by decide) :
    PE X (.Call (.Name c p) [] [] pos) ((bMk0 (K := X.K) c).t W) := by
  obtain ⟨y, hy1, ey⟩ := List.any_eq_true.mp hy
  rw [beq_iff_eq] at ey
  subst ey
  have k := F.one hy1
  unfold clsB at k
  simp only [Bool.and_eq_true, beq_iff_eq] at k
  obtain ⟨⟨⟨⟨⟨⟨⟨h1, h2⟩, h3⟩, h4⟩, h5⟩, h6⟩, h7⟩, h8⟩ := k
  refine ⟨fun pins s σ H Q I h => ?_⟩
  refine wpAny_Call_Name_kw (ld_glob I hg hm ?_ hdb)
  exact PySem.W.callWith_K0 I.kIn h6 (run_mk0 h5 (beq_iff_eq.mp h0) I h)
theorem P_isC (F : isosB c l X.K = true) (hm : X.mg "isinstance" = none) (hmc : X.mg c = some (.ref (He.ga X.K c))) (ha : PE X e (A.t W)) (hg : Gl X "isinstance" := by rfl) (hgc : Gl X c := by rfl) (hdc : (c == ("__debug__" : Str)) = false := by decide)
    (he : starEach [e, .Name c p] X.env = (false, eval e X.env) :: starEach [.Name c p] X.env := by rfl) (he2 : starEach [.Name c p] X.env = (false, eval (.Name c p) X.env) :: starEach [] X.env := by rfl) (hpl : (backTo pos (starEach [.Name c p] X.env)).any (·.1) = false := by rfl) :
    PE X (.Call (.Name "isinstance" p2) [e, .Name c p] [] pos) ((bIsC c l A).t W) :=
  pe_callB (call_isC F) hg hm (by decide +kernel) (pa_cons ha (pa_cons (pe_glob (v := .ref (He.ga X.K c)) hgc hmc rfl hdc) pa_nil he2) he) (by decide) (by decide) he hpl
end
end
end T
namespace G
open PySem L2 T
section
structure EntP (ws : List (List Nat)) (es : List Ent) : Prop where
  w : Words ws
  z : es.length ≤ 101
  e : ∀ e ∈ es, OkE e ∧ e.1 ∈ ws
  d : Dist es
structure OrdP (es L : List Ent) : Prop where
  p : L.Perm es
  o : L.Pairwise fun a b => aheadB a b = true
def PartR (ω : Om) (p : Addr) (L : List Ent) : Prop :=
  (ω p = some (.ins "Part" []) ∧ L = []) ∨ (∃ ha h, ω p = some (handF ha) ∧ OkHand ω ha h ∧ HRows h L) ∨ ∃ n b, ω p = some (runF n L b) ∧ 0 ≤ n ∧ n ≤ 9999999 ∧ RowsW L ∧ Marks L b
def bndD (p : List Nat × Option (List Nat)) : D := .tup [.str p.1, vD p.2]
structure BndP (bs : List (List Nat × Option (List Nat))) : Prop where
  z : bs.length ≤ 100
  k : ∀ b ∈ bs, b.1.all okc = true ∧ ∀ h, b.2 = some h → h.all okc = true
structure AskP (qs : List (List Nat)) : Prop where
  z : qs.length ≤ 100
  k : ∀ q ∈ qs, okK 20 q
def W__law_value : WP := fun ds ω Φ => ∃ x : Int, ds = [.int x] ∧ ∀ v : Option (List Nat), OkV v → Φ (vD v) ω
def W__law_entries : WP := fun ds ω Φ => ∃ c m : Int, ds = [.int c, .int m] ∧ 0 ≤ m ∧ m ≤ 101 ∧ ∀ ω' ws es, Grow ω ω' → EntP ws es → Φ (.lst (es.map eD)) ω'
def W__law_ordered : WP := fun ds ω Φ => ∃ es : List Ent, ds = [.lst (es.map eD)] ∧ es.length ≤ 101 ∧ (∀ e ∈ es, OkE e) ∧ Dist es ∧ ∀ L, OrdP es L → Φ (.lst (L.map eD)) ω
def W__law_stamps : WP := fun ds ω Φ => ∃ (es : List Ent) (c : Int), ds = [.lst (es.map eD), .int c] ∧ es.length ≤ 101 ∧ ∀ ss : List Int, ss.length ≤ 100 → Φ (.lst (ss.map .int)) ω
def W__law_all_entries : WP := fun ds ω Φ => ∃ (a : Addr) (es : List Ent), ds = [.ref a] ∧ ω a = some (.lst (es.map eD)) ∧ es.length ≤ 2000 ∧ Φ (.bl true) ω
def W__law_many : WP := fun ds ω Φ => ∃ c : Int, ds = [.int c] ∧ ∀ m : Int, 0 ≤ m → m ≤ 101 → Φ (.int m) ω
def W__law_first : WP := fun ds ω Φ => ∃ (L : List Ent) (q : List Nat) (s : Int), ds = [.lst (L.map eD), .str q, .int s] ∧ (L.Pairwise fun a b => aheadB a b = true) ∧ ∀ r, Newest L q s r → Φ (oE r) ω
def W__law_between : WP := fun ds ω Φ => ∃ (L : List Ent) (lo : List Nat) (hi : Option (List Nat)), ds = [.lst (L.map eD), .str lo, vD hi] ∧ L.length ≤ 2000 ∧ Φ (.lst ((L.filter (inB lo hi)).map eD)) ω
def W__law_told : WP := fun ds ω Φ => ∃ (p : Addr) (L : List Ent) (qs : List (List Nat)) (ss : List Int) (bs : List (List Nat × Option (List Nat))), ds = [.ref p, .lst (L.map eD), .lst (qs.map .str), .lst (ss.map .int), .lst (bs.map bndD)] ∧ PartR ω p L ∧ (∀ e ∈ L, OkE e) ∧ Dist L ∧ (L.Pairwise fun a b => aheadB a b = true) ∧ L.length ≤ 101 ∧ AskP qs ∧ ss.length ≤ 200 ∧ BndP bs ∧ ∀ ω', Grow ω ω' → Φ (.bl true) ω'
def W__law_says : WP := fun ds ω Φ => ∃ (ha p : Addr) (h : HSt) (n : Int) (b : Nat) (sv : D) (L : List Ent) (qs : List (List Nat)), ds = [.ref ha, .ref p, sv, .lst (L.map eD), .lst (qs.map .str)] ∧ OkHand ω ha h ∧ HRows h L ∧ (∀ e ∈ L, OkE e) ∧ L.length ≤ 101 ∧ (L ≠ [] → ω p = some (runF n L b) ∧ sv = sieveD L b ∧ Marks L b) ∧ AskP qs ∧ ∀ ω', Grow ω ω' → Φ (.bl true) ω'
abbrev W_law : WP := WLaw 63
end
section
def cl_Part_InHand_InRun : List CCl := [("Part", [], [("called", "Part"), ("says", "Part"), ("find", "Part"), ("between", "Part")]), ("InHand", ["hand"], [("called", "InHand"), ("says", "InHand"), ("find", "InHand"), ("between", "InHand"), ("__init__", "InHand")]), ("InRun", ["number", "run"], [("called", "InRun"), ("says", "InRun"), ("find", "InRun"), ("between", "InRun"), ("__init__", "InRun")])]
def cl_Part_InRun : List CCl := [("Part", [], [("called", "Part"), ("says", "Part"), ("find", "Part"), ("between", "Part")]), ("InRun", ["number", "run"], [("called", "InRun"), ("says", "InRun"), ("find", "InRun"), ("between", "InRun"), ("__init__", "InRun")])]
def cl_Part : List CCl := [("Part", [], [("called", "Part"), ("says", "Part"), ("find", "Part"), ("between", "Part")])]
def b__law_value {K : Fg} : BS K :=
  bsSeq (bsIf (btC (bOp (oEq) (bOp (oMod) (bVar 0) (bInt 3)) (bInt 0))) (bsRet (bNon)) (bsNext)) (bsRet (bCall0 W__law_text (baC (bOp (oDiv) (bVar 0) (bInt 3)) (baC (bInt 40) (baN)))))
theorem len__law_value : ∀ ds ω Φ, W__law_value ds ω Φ → ds.length = 1 := by
  intro ds ω Φ h
  obtain ⟨_, rfl, _⟩ := h; rfl
def b__law_entries {K : Fg} : BS K :=
  bsSeq (bsAsg (bCall0 W__law_keys (baC (bOp (oDiv) (bVar 0) (bInt 8)) (baC (bOp oIx (bLst false (baC (bInt 2) (baC (bInt 4) (baC (bInt 9) (baC (bInt 20) (baN)))))) (bOp (oMod) (bVar 0) (bInt 4))) (baN)))) (bgN 2)) (bsSeq (bsAsg (bOp oIx (bLst false (baC (bInt 0) (baC (bOp (oSub) (bOp (oSub) (bOp (oPow) (bInt 10) (bInt 9)) (bInt 1)) (bOp (oMul) (bInt 4) (bVar 1))) (baN)))) (bOp (oMod) (bOp (oDiv) (bVar 0) (bInt 4)) (bInt 2))) (bgN 3)) (bsSeq (bsAsg (bDnewT) (bgN 4)) (bsSeq (bsFor (biZip (baC (bFrz (bCall0 W__law_stream (baC (bVar 0) (baC (bVar 1) (baN))))) (baC (bFrz (bCall0 W__law_stream (baC (bOp (oAdd) (bOp (oDiv) (bVar 0) (bInt 3)) (bInt 5)) (baC (bVar 1) (baN))))) (baN)))) (bgT 2 (bgsC (bgN 5) (bgsC (bgN 6) (bgsN)))) (bsDputA (bVar 4) (baC (bOp oIx (bVar 2) (bOp (oMod) (bOp (oDiv) (bVar 5) (bInt 3)) (bCB cLen (baC (bVar 2) (baN))))) (baC (bOp (oAdd) (bOp (oAdd) (bVar 3) (bInt 1)) (bOp (oMod) (bOp (oDiv) (bVar 5) (bInt 9)) (bOp (oMul) (bInt 4) (bVar 1)))) (baN))) (bCall0 W__law_value (baC (bVar 6) (baN))))) (bsRet (bLc false (biKeys (bVar 4)) (bgT 2 (bgsC (bgN 7) (bgsC (bgN 8) (bgsN)))) (btYes) (bTup (baC (bVar 7) (baC (bVar 8) (baC (bDget (bVar 4) (bTup (baC (bVar 7) (baC (bVar 8) (baN))))) (baN))))) [7, 8] (mon_t (monS_c mon_n (monS_c mon_n monS_n))) (only_t (onlyS_c mon_n (monS_c mon_n monS_n) (only_n (by decide)) (onlyS_c mon_n monS_n (only_n (by decide)) onlyS_n))))))))
theorem len__law_entries : ∀ ds ω Φ, W__law_entries ds ω Φ → ds.length = 2 := by
  intro ds ω Φ h
  obtain ⟨_, _, rfl, _⟩ := h; rfl
def b__law_ordered {K : Fg} : BS K :=
  bsRet (bSortK false false (baC (bVar 0) (baN)) (kwL (K := K) (bTup (baC (bOp oIx (bVar 0) (bInt 0)) (baC (bNeg (bOp oIx (bVar 0) (bInt 1))) (baN)))) 1 []))
theorem len__law_ordered : ∀ ds ω Φ, W__law_ordered ds ω Φ → ds.length = 1 := by
  intro ds ω Φ h
  obtain ⟨_, rfl, _⟩ := h; rfl
def b__law_stamps {K : Fg} : BS K :=
  bsSeq (bsAsg (bOp (oAdd) (bInt 1) (bOp (oMod) (bVar 1) (bInt 5))) (bgN 2)) (bsSeq (bsIf (btC (bOp (oEq) (bOp (oMod) (bOp (oDiv) (bVar 1) (bInt 20)) (bInt 8)) (bInt 1))) (bsAsg (bOp (oAdd) (bInt 1) (bOp (oMod) (bOp (oDiv) (bVar 1) (bInt 160)) (bInt 40))) (bgN 2)) (bsNext)) (bsSeq (bsAsg (bFrz (bCall0 W__law_stream (baC (bVar 1) (baC (bVar 2) (baN))))) (bgN 3)) (bsSeq (bsIf (btOr (btC (bOp (oEqE) (bVar 0) (bLst false (baN)))) (btC (bOp (oEq) (bOp (oMod) (bOp (oDiv) (bVar 1) (bInt 5)) (bInt 4)) (bInt 0)))) (bsRet (bLst false (baN))) (bsNext)) (bsSeq (bsAsg (bLc false (biSeq (bVar 3)) (bgN 5) (btYes) (bOp (oSub) (bOp (oAdd) (bOp oIx (bOp oIx (bVar 0) (bOp (oMod) (bOp (oDiv) (bVar 5) (bInt 3)) (bCB cLen (baC (bVar 0) (baN))))) (bInt 1)) (bOp (oMod) (bOp (oDiv) (bVar 5) (bInt 300)) (bInt 3))) (bInt 1)) [5] mon_n (only_n (by decide))) (bgN 4)) (bsRet (bSortSetI false (bLc false (biSeq (bVar 4)) (bgN 6) (btYes) (bCB cMin2 (baC (bCB cMax2 (baC (bInt 0) (baC (bVar 6) (baN)))) (baC (bOp (oSub) (bOp (oPow) (bInt 10) (bInt 9)) (bInt 1)) (baN)))) [6] mon_n (only_n (by decide)))))))))
theorem len__law_stamps : ∀ ds ω Φ, W__law_stamps ds ω Φ → ds.length = 2 := by
  intro ds ω Φ h
  obtain ⟨_, _, rfl, _⟩ := h; rfl
def b__law_all_entries {K : Fg} : BS K :=
  bsSeq (bsIf (btNot (btTru (bIsi "list" (by simp) (bVar 0)))) (bsRet (bBl false)) (bsNext)) (bsSeq (bsFor (biSeq (bVar 0)) (bgN 1) (bsSeq (bsIf (btOr (btNot (btTru (bIsi "tuple" (by simp) (bVar 1)))) (btOr (btC (bOp (oNe) (bCB cLen (baC (bVar 1) (baN))) (bInt 3))) (btNot (btTru (bIsi "str" (by simp) (bOp oIx (bVar 1) (bInt 0))))))) (bsRet (bBl false)) (bsNext)) (bsIf (btOr (btNot (btTru (bCall0 W__law_whole (baC (bOp oIx (bVar 1) (bInt 1)) (baN))))) (btAnd (btC (bOp (oIs true) (bOp oIx (bVar 1) (bInt 2)) (bNon))) (btNot (btTru (bIsi "str" (by simp) (bOp oIx (bVar 1) (bInt 2))))))) (bsRet (bBl false)) (bsNext)))) (bsRet (bBl true)))
theorem len__law_all_entries : ∀ ds ω Φ, W__law_all_entries ds ω Φ → ds.length = 1 := by
  intro ds ω Φ h
  obtain ⟨_, _, rfl, _⟩ := h; rfl
def b__law_many {K : Fg} : BS K :=
  bsSeq (bsAsg (bOp (oMod) (bVar 0) (bInt 12)) (bgN 1)) (bsSeq (bsIf (btC (bOp (oEq) (bOp (oMod) (bOp (oDiv) (bVar 0) (bInt 12)) (bInt 6)) (bInt 1))) (bsAsg (bOp (oAdd) (bInt 12) (bOp (oMod) (bOp (oDiv) (bVar 0) (bInt 72)) (bInt 90))) (bgN 1)) (bsNext)) (bsRet (bVar 1)))
theorem len__law_many : ∀ ds ω Φ, W__law_many ds ω Φ → ds.length = 1 := by
  intro ds ω Φ h
  obtain ⟨_, rfl, _⟩ := h; rfl
def b__law_first {K : Fg} : BS K :=
  bsSeq (bsFor (biSeq (bVar 0)) (bgN 3) (bsIf (btAnd (btC (bOp (oEq) (bOp oIx (bVar 3) (bInt 0)) (bVar 1))) (btC (bOp (oLe) (bOp oIx (bVar 3) (bInt 1)) (bVar 2)))) (bsRet (bVar 3)) (bsNext))) (bsRet (bNon))
theorem len__law_first : ∀ ds ω Φ, W__law_first ds ω Φ → ds.length = 3 := by
  intro ds ω Φ h
  obtain ⟨_, _, _, rfl, _⟩ := h; rfl
def b__law_between {K : Fg} : BS K :=
  bsRet (bLc false (biSeq (bVar 0)) (bgN 3) (btAnd (btC (bOp (oLe) (bVar 1) (bOp oIx (bVar 3) (bInt 0)))) (btOr (btC (bOp (oIs false) (bVar 2) (bNon))) (btC (bOp (oLt) (bOp oIx (bVar 3) (bInt 0)) (bVar 2))))) (bVar 3) [3] mon_n (only_n (by decide)))
theorem len__law_between : ∀ ds ω Φ, W__law_between ds ω Φ → ds.length = 3 := by
  intro ds ω Φ h
  obtain ⟨_, _, _, rfl, _⟩ := h; rfl
def b__law_told {K : Fg} : BS K :=
  bsSeq (bsFor (biSeq (bVar 2)) (bgN 5) (bsSeq (bsFor (biSeq (bVar 3)) (bgN 6) (bsIf (btC (bOp (oNe) (bMeth [MT.mk "Part" (wX W_Part_find) (([] : List V).drop 0) [] (hd_drop (us := ([] : List V)) rfl (fun _ => .nil)), MT.mk "InHand" (wX W_InHand_find) (([] : List V).drop 0) [] (hd_drop (us := ([] : List V)) rfl (fun _ => .nil)), MT.mk "InRun" (wX W_InRun_find) (([] : List V).drop 0) [] (hd_drop (us := ([] : List V)) rfl (fun _ => .nil))] "find" (bVar 0) (baC (bVar 5) (baC (bVar 6) (baN)))) (bCall0 W__law_first (baC (bVar 1) (baC (bVar 5) (baC (bVar 6) (baN))))))) (bsRet (bBl false)) (bsNext))) (bsIf (btNot (btTru (bIsi "bool" (by simp) (bMeth [MT.mk "Part" (wX W_Part_says) (([] : List V).drop 0) [] (hd_drop (us := ([] : List V)) rfl (fun _ => .nil)), MT.mk "InHand" (wX W_InHand_says) (([] : List V).drop 0) [] (hd_drop (us := ([] : List V)) rfl (fun _ => .nil)), MT.mk "InRun" (wX W_InRun_says) (([] : List V).drop 0) [] (hd_drop (us := ([] : List V)) rfl (fun _ => .nil))] "says" (bVar 0) (baC (bVar 5) (baN)))))) (bsRet (bBl false)) (bsNext)))) (bsSeq (bsFor (biSeq (bVar 4)) (bgT 2 (bgsC (bgN 7) (bgsC (bgN 8) (bgsN)))) (bsSeq (bsAsg (bCall0 W__law_between (baC (bVar 1) (baC (bVar 7) (baC (bVar 8) (baN))))) (bgN 9)) (bsSeq (bsAsg (bMeth [MT.mk "Part" (wX W_Part_between) (([] : List V).drop 0) [] (hd_drop (us := ([] : List V)) rfl (fun _ => .nil)), MT.mk "InHand" (wX W_InHand_between) (([] : List V).drop 0) [] (hd_drop (us := ([] : List V)) rfl (fun _ => .nil)), MT.mk "InRun" (wX W_InRun_between) (([] : List V).drop 0) [] (hd_drop (us := ([] : List V)) rfl (fun _ => .nil))] "between" (bVar 0) (baC (bVar 7) (baC (bVar 8) (baN)))) (bgN 10)) (bsSeq (bsIf (btOr (btNot (btTru (bCall0 W__law_all_entries (baC (bVar 10) (baN))))) (btC (bOp (oNe) (bVar 10) (bVar 9)))) (bsRet (bBl false)) (bsNext)) (bsSeq (bsDrop (bM "list" (by decide) m_append (bVar 10) (baC (bNon) (baN)))) (bsIf (btC (bOp (oNe) (bMeth [MT.mk "Part" (wX W_Part_between) (([] : List V).drop 0) [] (hd_drop (us := ([] : List V)) rfl (fun _ => .nil)), MT.mk "InHand" (wX W_InHand_between) (([] : List V).drop 0) [] (hd_drop (us := ([] : List V)) rfl (fun _ => .nil)), MT.mk "InRun" (wX W_InRun_between) (([] : List V).drop 0) [] (hd_drop (us := ([] : List V)) rfl (fun _ => .nil))] "between" (bVar 0) (baC (bVar 7) (baC (bVar 8) (baN)))) (bVar 9))) (bsRet (bBl false)) (bsNext))))))) (bsRet (bAndT (bIsC "Part" ["Part", "InHand", "InRun"] (bVar 0)) (bIsi "str" (by simp) (bMeth [MT.mk "Part" (wX W_Part_called) (([] : List V).drop 0) [] (hd_drop (us := ([] : List V)) rfl (fun _ => .nil)), MT.mk "InHand" (wX W_InHand_called) (([] : List V).drop 0) [] (hd_drop (us := ([] : List V)) rfl (fun _ => .nil)), MT.mk "InRun" (wX W_InRun_called) (([] : List V).drop 0) [] (hd_drop (us := ([] : List V)) rfl (fun _ => .nil))] "called" (bVar 0) (baN))))))
theorem len__law_told : ∀ ds ω Φ, W__law_told ds ω Φ → ds.length = 5 := by
  intro ds ω Φ h
  obtain ⟨_, _, _, _, _, rfl, _⟩ := h; rfl
def b__law_says {K : Fg} : BS K :=
  bsSeq (bsAsg (bLc false (biSeq (bVar 3)) (bgN 7) (btYes) (bOp oIx (bVar 7) (bInt 0)) [7] mon_n (only_n (by decide))) (bgN 5)) (bsSeq (bsFor (biSeq (bVar 4)) (bgN 6) (bsSeq (bsIf (btC (bOp (oNe) (bMeth [MT.mk "InHand" (wX W_InHand_says) (([] : List V).drop 0) [] (hd_drop (us := ([] : List V)) rfl (fun _ => .nil))] "says" (bMake "InHand" W_InHand___init__ (([] : List V).drop 0) [] (hd_drop (us := ([] : List V)) rfl (fun _ => .nil)) (baC (bVar 0) (baN))) (baC (bVar 6) (baN))) (bOp (oIn false) (bVar 6) (bVar 5)))) (bsRet (bBl false)) (bsNext)) (bsSeq (bsIf (btC (bOp (oEqE) (bVar 3) (bLst false (baN)))) (bsCont) (bsNext)) (bsIf (btOr (btAnd (btC (bOp (oIn false) (bVar 6) (bVar 5))) (btNot (btTru (bMeth [MT.mk "Part" (wX W_Part_says) (([] : List V).drop 0) [] (hd_drop (us := ([] : List V)) rfl (fun _ => .nil)), MT.mk "InRun" (wX W_InRun_says) (([] : List V).drop 0) [] (hd_drop (us := ([] : List V)) rfl (fun _ => .nil))] "says" (bVar 1) (baC (bVar 6) (baN)))))) (btC (bOp (oNe) (bMeth [MT.mk "Part" (wX W_Part_says) (([] : List V).drop 0) [] (hd_drop (us := ([] : List V)) rfl (fun _ => .nil)), MT.mk "InRun" (wX W_InRun_says) (([] : List V).drop 0) [] (hd_drop (us := ([] : List V)) rfl (fun _ => .nil))] "says" (bVar 1) (baC (bVar 6) (baN))) (bCall0 W_may_have (baC (bVar 2) (baC (bVar 6) (baN))))))) (bsRet (bBl false)) (bsNext))))) (bsRet (bBl true)))
theorem len__law_says : ∀ ds ω Φ, W__law_says ds ω Φ → ds.length = 5 := by
  intro ds ω Φ h
  obtain ⟨_, _, _, _, _, _, _, _, rfl, _⟩ := h; rfl
def b_law {K : Fg} : BS K :=
  bsSeq (bsAsg (bCall0 W__law_entries (baC (bCall0 W__law_cell_at (baC (bVar 0) (baC (bInt 1) (baN)))) (baC (bCall0 W__law_many (baC (bCall0 W__law_cell_at (baC (bVar 0) (baC (bInt 0) (baN)))) (baN))) (baN)))) (bgN 1)) (bsSeq (bsAsg (bCall0 W__law_ordered (baC (bVar 1) (baN))) (bgN 2)) (bsSeq (bsAsg (bMake "Hand" W_Hand___init__ (([] : List V).drop 0) [] (hd_drop (us := ([] : List V)) rfl (fun _ => .nil)) (baN)) (bgN 3)) (bsSeq (bsFor (biSeq (bVar 1)) (bgN 4) (bsDrop (bMeth [MT.mk "Hand" (wX W_Hand_put) (([] : List V).drop 0) [] (hd_drop (us := ([] : List V)) rfl (fun _ => .nil))] "put" (bVar 3) (baC (bOp oIx (bVar 4) (bInt 0)) (baC (bOp oIx (bVar 4) (bInt 1)) (baC (bOp oIx (bVar 4) (bInt 2)) (baN))))))) (bsSeq (bsAsg (bOp (oAdd) (bSl (oSl false) (bLc false (biSeq (bVar 2)) (bgN 4) (btYes) (bOp oIx (bVar 4) (bInt 0)) [4] mon_n (only_n (by decide))) (boN) (boS (bInt 4))) (bSl (oSl false) (bCall0 W__law_keys (baC (bOp (oDiv) (bCall0 W__law_cell_at (baC (bVar 0) (baC (bInt 1) (baN)))) (bInt 8)) (baC (bInt 3) (baN)))) (boN) (boS (bInt 4)))) (bgN 5)) (bsSeq (bsAsg (bOp (oAdd) (bVar 5) (bLst false (baC (bCall0 W__law_sign (baC (bCall0 W__law_cell_at (baC (bVar 0) (baC (bInt 2) (baN)))) (baN))) (baN)))) (bgN 5)) (bsSeq (bsAsg (bOp (oAdd) (bLst false (baC (bOp (oSub) (bOp (oPow) (bInt 10) (bInt 9)) (bInt 1)) (baC (bInt 0) (baN)))) (bCall0 W__law_stamps (baC (bVar 1) (baC (bCall0 W__law_cell_at (baC (bVar 0) (baC (bInt 2) (baN)))) (baN))))) (bgN 6)) (bsSeq (bsAsg (bLst false (baC (bTup (baC (bLit "" [] (by decide +kernel)) (baC (bNon) (baN)))) (baC (bTup (baC (bOp oIx (bVar 5) (bInt 0)) (baC (bNon) (baN)))) (baC (bTup (baC (bLit "" [] (by decide +kernel)) (baC (bOp oIx (bVar 5) (bNeg (bInt 1))) (baN)))) (baC (bTup (baC (bOp oIx (bVar 5) (bNeg (bInt 1))) (baC (bOp oIx (bVar 5) (bInt 0)) (baN)))) (baC (bTup (baC (bOp oIx (bVar 5) (bInt 0)) (baC (bOp (oAdd) (bSl (oSl false) (bOp oIx (bVar 5) (bInt 0)) (boN) (boS (bInt 19))) (bLit "~" [126] (by decide +kernel))) (baN)))) (baN))))))) (bgN 7)) (bsSeq (bsAsg (bMake "InHand" W_InHand___init__ (([] : List V).drop 0) [] (hd_drop (us := ([] : List V)) rfl (fun _ => .nil)) (baC (bVar 3) (baN))) (bgN 8)) (bsSeq (bsAsg (bMk0 "Part") (bgN 9)) (bsSeq (bsIf (btOr (btNot (btTru (bCall0 W__law_told (baC (bVar 8) (baC (bVar 2) (baC (bVar 5) (baC (bVar 6) (baC (bVar 7) (baN))))))))) (btC (bOp (oNe) (bMeth [MT.mk "Part" (wX W_Part_called) (([] : List V).drop 0) [] (hd_drop (us := ([] : List V)) rfl (fun _ => .nil)), MT.mk "InHand" (wX W_InHand_called) (([] : List V).drop 0) [] (hd_drop (us := ([] : List V)) rfl (fun _ => .nil)), MT.mk "InRun" (wX W_InRun_called) (([] : List V).drop 0) [] (hd_drop (us := ([] : List V)) rfl (fun _ => .nil))] "called" (bVar 8) (baN)) (bLit "hand" [104, 97, 110, 100] (by decide +kernel))))) (bsRet (bBl false)) (bsNext)) (bsSeq (bsIf (btOr (btNot (btTru (bCall0 W__law_told (baC (bVar 9) (baC (bLst false (baN)) (baC (bVar 5) (baC (bVar 6) (baC (bVar 7) (baN))))))))) (btOr (btC (bOp (oNe) (bMeth [MT.mk "Part" (wX W_Part_called) (([] : List V).drop 0) [] (hd_drop (us := ([] : List V)) rfl (fun _ => .nil))] "called" (bVar 9) (baN)) (bLit "" [] (by decide +kernel)))) (btTru (bMeth [MT.mk "Part" (wX W_Part_says) (([] : List V).drop 0) [] (hd_drop (us := ([] : List V)) rfl (fun _ => .nil))] "says" (bVar 9) (baC (bOp oIx (bVar 5) (bInt 0)) (baN)))))) (bsRet (bBl false)) (bsNext)) (bsSeq (bsAsg (bOp (oAdd) (bInt 1) (bOp (oMod) (bCall0 W__law_cell_at (baC (bVar 0) (baC (bInt 3) (baN)))) (bInt 9999999))) (bgN 10)) (bsSeq (bsAsg (bVar 9) (bgN 11)) (bsSeq (bsAsg (bTup (baC (bInt 8) (baC (bInt 0) (baN)))) (bgN 12)) (bsSeq (bsIf (btC (bOp (oNe) (bVar 2) (bLst false (baN)))) (bsSeq (bsAsg (bCall0 W_run_of (baC (bCB (cList false) (baC (bVar 1) (baN))) (baN))) (bgN 13)) (bsSeq (bsAsg (bOp oIx (bVar 13) (bInt 0)) (bgN 12)) (bsSeq (bsAsg (bMake "InRun" W_InRun___init__ (([] : List V).drop 0) [] (hd_drop (us := ([] : List V)) rfl (fun _ => .nil)) (baC (bVar 10) (baC (bVar 13) (baN)))) (bgN 11)) (bsSeq (bsAsg (bOp (oAdd) (bOp (oAdd) (bLit "run" [114, 117, 110] (by decide +kernel)) (bOp (oMul) (bLit "0" [48] (by decide +kernel)) (bOp (oSub) (bInt 7) (bCB cLen (baC (bCB (cStr) (baC (bVar 10) (baN))) (baN)))))) (bCB (cStr) (baC (bVar 10) (baN)))) (bgN 14)) (bsIf (btOr (btNot (btTru (bCall0 W__law_told (baC (bVar 11) (baC (bVar 2) (baC (bVar 5) (baC (bVar 6) (baC (bVar 7) (baN))))))))) (btC (bOp (oNe) (bMeth [MT.mk "Part" (wX W_Part_called) (([] : List V).drop 0) [] (hd_drop (us := ([] : List V)) rfl (fun _ => .nil)), MT.mk "InRun" (wX W_InRun_called) (([] : List V).drop 0) [] (hd_drop (us := ([] : List V)) rfl (fun _ => .nil))] "called" (bVar 11) (baN)) (bVar 14)))) (bsRet (bBl false)) (bsNext)))))) (bsNext)) (bsSeq (bsIf (btNot (btTru (bCall0 W__law_says (baC (bVar 3) (baC (bVar 11) (baC (bVar 12) (baC (bVar 2) (baC (bVar 5) (baN))))))))) (bsRet (bBl false)) (bsNext)) (bsSeq (bsDrop (bMeth [MT.mk "Hand" (wX W_Hand_put) (([] : List V).drop 0) [] (hd_drop (us := ([] : List V)) rfl (fun _ => .nil))] "put" (bVar 3) (baC (bLit "q" [113] (by decide +kernel)) (baC (bInt 7) (baC (bLit "w" [119] (by decide +kernel)) (baN)))))) (bsRet (bAndT (bOp (oEq) (bMeth [MT.mk "Part" (wX W_Part_find) (([] : List V).drop 0) [] (hd_drop (us := ([] : List V)) rfl (fun _ => .nil)), MT.mk "InHand" (wX W_InHand_find) (([] : List V).drop 0) [] (hd_drop (us := ([] : List V)) rfl (fun _ => .nil)), MT.mk "InRun" (wX W_InRun_find) (([] : List V).drop 0) [] (hd_drop (us := ([] : List V)) rfl (fun _ => .nil))] "find" (bVar 8) (baC (bLit "q" [113] (by decide +kernel)) (baC (bInt 7) (baN)))) (bTup (baC (bLit "q" [113] (by decide +kernel)) (baC (bInt 7) (baC (bLit "w" [119] (by decide +kernel)) (baN)))))) (bMeth [MT.mk "Part" (wX W_Part_says) (([] : List V).drop 0) [] (hd_drop (us := ([] : List V)) rfl (fun _ => .nil)), MT.mk "InHand" (wX W_InHand_says) (([] : List V).drop 0) [] (hd_drop (us := ([] : List V)) rfl (fun _ => .nil)), MT.mk "InRun" (wX W_InRun_says) (([] : List V).drop 0) [] (hd_drop (us := ([] : List V)) rfl (fun _ => .nil))] "says" (bVar 8) (baC (bLit "q" [113] (by decide +kernel)) (baN))))))))))))))))))))))
theorem len_law : ∀ ds ω Φ, W_law ds ω Φ → ds.length = 1 := by
  intro ds ω Φ h
  first | (obtain ⟨rfl, _⟩ := h; rfl) | (obtain ⟨_, rfl, _⟩ := h; rfl) | (obtain ⟨_, _, rfl, _⟩ := h; rfl) | (obtain ⟨_, _, _, rfl, _⟩ := h; rfl) | (obtain ⟨_, _, _, _, rfl, _⟩ := h; rfl) | (obtain ⟨_, _, _, _, _, rfl, _⟩ := h; rfl) | (obtain ⟨_, _, _, _, _, _, rfl, _⟩ := h; rfl) | (obtain ⟨_, _, _, _, _, _, _, rfl, _⟩ := h; rfl) | (obtain ⟨_, _, _, _, _, _, _, _, rfl, _⟩ := h; rfl) | (obtain ⟨_, _, _, _, _, _, _, _, _, rfl, _⟩ := h; rfl) | (obtain ⟨_, _, _, _, _, _, _, _, _, _, rfl, _⟩ := h; rfl) | (obtain ⟨_, _, _, _, _, _, _, _, _, _, _, rfl, _⟩ := h; rfl) | (obtain ⟨_, _, _, _, _, _, _, _, _, _, _, _, rfl, _⟩ := h; rfl) | (obtain ⟨_, _, _, _, _, _, _, _, _, _, _, _, _, rfl, _⟩ := h; rfl) | (obtain ⟨_, _, _, _, _, _, _, _, _, _, _, _, _, _, rfl, _⟩ := h; rfl) | (obtain ⟨_, _, _, _, _, _, _, _, _, _, _, _, _, _, _, rfl, _⟩ := h; rfl) | (obtain ⟨_, _, _, _, _, _, _, _, _, _, _, _, _, _, _, _, rfl, _⟩ := h; rfl) | (obtain ⟨_, _, _, _, _, _, _, _, _, _, _, _, _, _, _, _, _, rfl, _⟩ := h; rfl)
end
section
def top (i : Nat) : Stmt := PySem.Challenge.pw_tierstore_k60_parts_tell.main.body.getD i (.Pass ⟨0, 0, 0, 0⟩)
abbrev s_probe : Stmt := top 4
abbrev n_probe : List Str := ["factor", "place_of"]
abbrev s_probe_in : Stmt := (firstDef (defBody s_probe)).getD (.Pass ⟨0, 0, 0, 0⟩)
abbrev n_probe_in : List Str := ["key", "size", "factor", "number", "sign"]
theorem sc_probe_in : NdefX.NScope n_probe_in ["key", "size"] ["factor"] (C8.fnScope s_probe_in) := NdefX.nscope_by (by decide +kernel)
theorem sc_probe : FnScope n_probe ["factor"] (defScope s_probe) := ⟨rfl, rfl, rfl, by decide +kernel, rfl, by decide +kernel, by decide +kernel⟩
abbrev s_places : Stmt := top 5
abbrev n_places : List Str := ["key", "size", "place_of", "factor"]
theorem sc_places : FnScope n_places ["key", "size"] (defScope s_places) := ⟨rfl, rfl, rfl, by decide +kernel, rfl, by decide +kernel, by decide +kernel⟩
abbrev s_sieve_of : Stmt := top 6
abbrev n_sieve_of : List Str := ["keys", "size", "bits", "key", "place"]
theorem sc_sieve_of : FnScope n_sieve_of ["keys"] (defScope s_sieve_of) := ⟨rfl, rfl, rfl, by decide +kernel, rfl, by decide +kernel, by decide +kernel⟩
abbrev s_may_have : Stmt := top 7
abbrev n_may_have : List Str := ["sieve", "key", "place"]
theorem sc_may_have : FnScope n_may_have ["sieve", "key"] (defScope s_may_have) := ⟨rfl, rfl, rfl, by decide +kernel, rfl, by decide +kernel, by decide +kernel⟩
abbrev s_place_of : Stmt := top 9
abbrev n_place_of : List Str := ["entry"]
theorem sc_place_of : FnScope n_place_of ["entry"] (defScope s_place_of) := ⟨rfl, rfl, rfl, by decide +kernel, rfl, by decide +kernel, by decide +kernel⟩
abbrev s_sieve_for : Stmt := top 10
abbrev n_sieve_for : List Str := ["entries", "entry"]
theorem sc_sieve_for : FnScope n_sieve_for ["entries"] (defScope s_sieve_for) := ⟨rfl, rfl, rfl, by decide +kernel, rfl, by decide +kernel, by decide +kernel⟩
abbrev s_run_of : Stmt := top 11
abbrev n_run_of : List Str := ["entries", "rows"]
theorem sc_run_of : FnScope n_run_of ["entries"] (defScope s_run_of) := ⟨rfl, rfl, rfl, by decide +kernel, rfl, by decide +kernel, by decide +kernel⟩
abbrev s_first_from : Stmt := top 12
abbrev n_first_from : List Str := ["entries", "place", "low", "high", "half"]
theorem sc_first_from : FnScope n_first_from ["entries", "place"] (defScope s_first_from) := ⟨rfl, rfl, rfl, by decide +kernel, rfl, by decide +kernel, by decide +kernel⟩
abbrev s_find : Stmt := top 13
abbrev n_find : List Str := ["run", "key", "stamp", "sieve", "entries", "at"]
theorem sc_find : FnScope n_find ["run", "key", "stamp"] (defScope s_find) := ⟨rfl, rfl, rfl, by decide +kernel, rfl, by decide +kernel, by decide +kernel⟩
abbrev s_between : Stmt := top 15
abbrev n_between : List Str := ["run", "low", "high", "entries", "first"]
theorem sc_between : FnScope n_between ["run", "low", "high"] (defScope s_between) := ⟨rfl, rfl, rfl, by decide +kernel, rfl, by decide +kernel, by decide +kernel⟩
abbrev s_name_of : Stmt := top 18
abbrev n_name_of : List Str := ["number"]
theorem sc_name_of : FnScope n_name_of ["number"] (defScope s_name_of) := ⟨rfl, rfl, rfl, by decide +kernel, rfl, by decide +kernel, by decide +kernel⟩
abbrev s_Part_called : Stmt := inClass (top 21) 0
abbrev n_Part_called : List Str := ["self"]
theorem sc_Part_called : FnScope n_Part_called ["self"] (defScope s_Part_called) := ⟨rfl, rfl, rfl, by decide +kernel, rfl, by decide +kernel, by decide +kernel⟩
abbrev s_Part_says : Stmt := inClass (top 21) 1
abbrev n_Part_says : List Str := ["self", "key"]
theorem sc_Part_says : FnScope n_Part_says ["self", "key"] (defScope s_Part_says) := ⟨rfl, rfl, rfl, by decide +kernel, rfl, by decide +kernel, by decide +kernel⟩
abbrev s_Part_find : Stmt := inClass (top 21) 2
abbrev n_Part_find : List Str := ["self", "key", "stamp"]
theorem sc_Part_find : FnScope n_Part_find ["self", "key", "stamp"] (defScope s_Part_find) := ⟨rfl, rfl, rfl, by decide +kernel, rfl, by decide +kernel, by decide +kernel⟩
abbrev s_Part_between : Stmt := inClass (top 21) 3
abbrev n_Part_between : List Str := ["self", "low", "high"]
theorem sc_Part_between : FnScope n_Part_between ["self", "low", "high"] (defScope s_Part_between) := ⟨rfl, rfl, rfl, by decide +kernel, rfl, by decide +kernel, by decide +kernel⟩
abbrev s_InHand___init__ : Stmt := inClass (top 22) 0
abbrev n_InHand___init__ : List Str := ["self", "hand"]
theorem sc_InHand___init__ : FnScope n_InHand___init__ ["self", "hand"] (defScope s_InHand___init__) := ⟨rfl, rfl, rfl, by decide +kernel, rfl, by decide +kernel, by decide +kernel⟩
abbrev s_InHand_called : Stmt := inClass (top 22) 1
abbrev n_InHand_called : List Str := ["self"]
theorem sc_InHand_called : FnScope n_InHand_called ["self"] (defScope s_InHand_called) := ⟨rfl, rfl, rfl, by decide +kernel, rfl, by decide +kernel, by decide +kernel⟩
abbrev s_InHand_says : Stmt := inClass (top 22) 2
abbrev n_InHand_says : List Str := ["self", "key"]
theorem sc_InHand_says : FnScope n_InHand_says ["self", "key"] (defScope s_InHand_says) := ⟨rfl, rfl, rfl, by decide +kernel, rfl, by decide +kernel, by decide +kernel⟩
abbrev s_InHand_find : Stmt := inClass (top 22) 3
abbrev n_InHand_find : List Str := ["self", "key", "stamp"]
theorem sc_InHand_find : FnScope n_InHand_find ["self", "key", "stamp"] (defScope s_InHand_find) := ⟨rfl, rfl, rfl, by decide +kernel, rfl, by decide +kernel, by decide +kernel⟩
abbrev s_InHand_between : Stmt := inClass (top 22) 4
abbrev n_InHand_between : List Str := ["self", "low", "high"]
theorem sc_InHand_between : FnScope n_InHand_between ["self", "low", "high"] (defScope s_InHand_between) := ⟨rfl, rfl, rfl, by decide +kernel, rfl, by decide +kernel, by decide +kernel⟩
abbrev s_InRun___init__ : Stmt := inClass (top 23) 0
abbrev n_InRun___init__ : List Str := ["self", "number", "run"]
theorem sc_InRun___init__ : FnScope n_InRun___init__ ["self", "number", "run"] (defScope s_InRun___init__) := ⟨rfl, rfl, rfl, by decide +kernel, rfl, by decide +kernel, by decide +kernel⟩
abbrev s_InRun_called : Stmt := inClass (top 23) 1
abbrev n_InRun_called : List Str := ["self"]
theorem sc_InRun_called : FnScope n_InRun_called ["self"] (defScope s_InRun_called) := ⟨rfl, rfl, rfl, by decide +kernel, rfl, by decide +kernel, by decide +kernel⟩
abbrev s_InRun_says : Stmt := inClass (top 23) 2
abbrev n_InRun_says : List Str := ["self", "key"]
theorem sc_InRun_says : FnScope n_InRun_says ["self", "key"] (defScope s_InRun_says) := ⟨rfl, rfl, rfl, by decide +kernel, rfl, by decide +kernel, by decide +kernel⟩
abbrev s_InRun_find : Stmt := inClass (top 23) 3
abbrev n_InRun_find : List Str := ["self", "key", "stamp"]
theorem sc_InRun_find : FnScope n_InRun_find ["self", "key", "stamp"] (defScope s_InRun_find) := ⟨rfl, rfl, rfl, by decide +kernel, rfl, by decide +kernel, by decide +kernel⟩
abbrev s_InRun_between : Stmt := inClass (top 23) 4
abbrev n_InRun_between : List Str := ["self", "low", "high"]
theorem sc_InRun_between : FnScope n_InRun_between ["self", "low", "high"] (defScope s_InRun_between) := ⟨rfl, rfl, rfl, by decide +kernel, rfl, by decide +kernel, by decide +kernel⟩
abbrev s_Hand___init__ : Stmt := inClass (top 25) 0
abbrev n_Hand___init__ : List Str := ["self"]
theorem sc_Hand___init__ : FnScope n_Hand___init__ ["self"] (defScope s_Hand___init__) := ⟨rfl, rfl, rfl, by decide +kernel, rfl, by decide +kernel, by decide +kernel⟩
abbrev s_Hand_put : Stmt := inClass (top 25) 1
abbrev n_Hand_put : List Str := ["self", "key", "stamp", "value"]
theorem sc_Hand_put : FnScope n_Hand_put ["self", "key", "stamp", "value"] (defScope s_Hand_put) := ⟨rfl, rfl, rfl, by decide +kernel, rfl, by decide +kernel, by decide +kernel⟩
abbrev s_Hand_find : Stmt := inClass (top 25) 2
abbrev n_Hand_find : List Str := ["self", "key", "stamp", "told", "newest", "one"]
theorem sc_Hand_find : FnScope n_Hand_find ["self", "key", "stamp"] (defScope s_Hand_find) := ⟨rfl, rfl, rfl, by decide +kernel, rfl, by decide +kernel, by decide +kernel⟩
abbrev s_Hand_greatest : Stmt := inClass (top 25) 4
abbrev n_Hand_greatest : List Str := ["self", "told"]
theorem sc_Hand_greatest : FnScope n_Hand_greatest ["self"] (defScope s_Hand_greatest) := ⟨rfl, rfl, rfl, by decide +kernel, rfl, by decide +kernel, by decide +kernel⟩
abbrev s_Hand_rows : Stmt := inClass (top 25) 5
abbrev n_Hand_rows : List Str := ["self", "found", "key", "stamp", "value"]
theorem sc_Hand_rows : FnScope n_Hand_rows ["self"] (defScope s_Hand_rows) := ⟨rfl, rfl, rfl, by decide +kernel, rfl, by decide +kernel, by decide +kernel⟩
abbrev s_Hand_between : Stmt := inClass (top 25) 6
abbrev n_Hand_between : List Str := ["self", "low", "high", "entry"]
theorem sc_Hand_between : FnScope n_Hand_between ["self", "low", "high"] (defScope s_Hand_between) := ⟨rfl, rfl, rfl, by decide +kernel, rfl, by decide +kernel, by decide +kernel⟩
abbrev s__law_cell_at : Stmt := top 27
abbrev n__law_cell_at : List Str := ["_law_script", "_law_k"]
theorem sc__law_cell_at : FnScope n__law_cell_at ["_law_script", "_law_k"] (defScope s__law_cell_at) := ⟨rfl, rfl, rfl, by decide +kernel, rfl, by decide +kernel, by decide +kernel⟩
abbrev s__law_whole : Stmt := top 28
abbrev n__law_whole : List Str := ["_law_found"]
theorem sc__law_whole : FnScope n__law_whole ["_law_found"] (defScope s__law_whole) := ⟨rfl, rfl, rfl, by decide +kernel, rfl, by decide +kernel, by decide +kernel⟩
abbrev s__law_stream : Stmt := top 29
abbrev n__law_stream : List Str := ["_law_cell", "_law_many_here", "_law_found", "_law_number", "_law_k"]
theorem sc__law_stream : FnScope n__law_stream ["_law_cell", "_law_many_here"] (defScope s__law_stream) := ⟨rfl, rfl, rfl, by decide +kernel, rfl, by decide +kernel, by decide +kernel⟩
abbrev s__law_sign : Stmt := top 30
abbrev n__law_sign : List Str := ["_law_x", "_law_some"]
theorem sc__law_sign : FnScope n__law_sign ["_law_x"] (defScope s__law_sign) := ⟨rfl, rfl, rfl, by decide +kernel, rfl, by decide +kernel, by decide +kernel⟩
abbrev s__law_text : Stmt := top 31
abbrev n__law_text : List Str := ["_law_x", "_law_most", "_law_size", "_law_y"]
theorem sc__law_text : FnScope n__law_text ["_law_x", "_law_most"] (defScope s__law_text) := ⟨rfl, rfl, rfl, by decide +kernel, rfl, by decide +kernel, by decide +kernel⟩
abbrev s__law_keys : Stmt := top 32
abbrev n__law_keys : List Str := ["_law_cell", "_law_many_here", "_law_found", "_law_x", "_law_last", "_law_at", "_law_word"]
theorem sc__law_keys : FnScope n__law_keys ["_law_cell", "_law_many_here"] (defScope s__law_keys) := ⟨rfl, rfl, rfl, by decide +kernel, rfl, by decide +kernel, by decide +kernel⟩
abbrev s__law_value : Stmt := top 33
abbrev n__law_value : List Str := ["_law_x"]
theorem sc__law_value : FnScope n__law_value ["_law_x"] (defScope s__law_value) := ⟨rfl, rfl, rfl, by decide +kernel, rfl, by decide +kernel, by decide +kernel⟩
abbrev s__law_entries : Stmt := top 34
abbrev n__law_entries : List Str := ["_law_cell", "_law_many_here", "_law_keys_here", "_law_begin", "_law_found", "_law_x", "_law_y", "_law_word", "_law_stamp"]
theorem sc__law_entries : FnScope n__law_entries ["_law_cell", "_law_many_here"] (defScope s__law_entries) := ⟨rfl, rfl, rfl, by decide +kernel, rfl, by decide +kernel, by decide +kernel⟩
abbrev s__law_ordered : Stmt := top 35
abbrev n__law_ordered : List Str := ["_law_entries_here"]
theorem sc__law_ordered : FnScope n__law_ordered ["_law_entries_here"] (defScope s__law_ordered) := ⟨rfl, rfl, rfl, by decide +kernel, rfl, by decide +kernel, by decide +kernel⟩
abbrev s__law_stamps : Stmt := top 37
abbrev n__law_stamps : List Str := ["_law_entries_here", "_law_cell", "_law_many_here", "_law_xs", "_law_stamps_here", "_law_x", "_law_stamp"]
theorem sc__law_stamps : FnScope n__law_stamps ["_law_entries_here", "_law_cell"] (defScope s__law_stamps) := ⟨rfl, rfl, rfl, by decide +kernel, rfl, by decide +kernel, by decide +kernel⟩
abbrev s__law_all_entries : Stmt := top 38
abbrev n__law_all_entries : List Str := ["_law_found", "_law_entry"]
theorem sc__law_all_entries : FnScope n__law_all_entries ["_law_found"] (defScope s__law_all_entries) := ⟨rfl, rfl, rfl, by decide +kernel, rfl, by decide +kernel, by decide +kernel⟩
abbrev s__law_many : Stmt := top 39
abbrev n__law_many : List Str := ["_law_cell", "_law_many_here"]
theorem sc__law_many : FnScope n__law_many ["_law_cell"] (defScope s__law_many) := ⟨rfl, rfl, rfl, by decide +kernel, rfl, by decide +kernel, by decide +kernel⟩
abbrev s__law_first : Stmt := top 40
abbrev n__law_first : List Str := ["_law_entries_here", "_law_word", "_law_stamp", "_law_entry"]
theorem sc__law_first : FnScope n__law_first ["_law_entries_here", "_law_word", "_law_stamp"] (defScope s__law_first) := ⟨rfl, rfl, rfl, by decide +kernel, rfl, by decide +kernel, by decide +kernel⟩
abbrev s__law_between : Stmt := top 42
abbrev n__law_between : List Str := ["_law_row", "_law_low", "_law_high", "_law_entry"]
theorem sc__law_between : FnScope n__law_between ["_law_row", "_law_low", "_law_high"] (defScope s__law_between) := ⟨rfl, rfl, rfl, by decide +kernel, rfl, by decide +kernel, by decide +kernel⟩
abbrev s__law_told : Stmt := top 43
abbrev n__law_told : List Str := ["_law_part", "_law_row", "_law_words", "_law_stamps_here", "_law_bounds", "_law_word", "_law_stamp", "_law_low", "_law_high", "_law_due", "_law_found"]
theorem sc__law_told : FnScope n__law_told ["_law_part", "_law_row", "_law_words", "_law_stamps_here", "_law_bounds"] (defScope s__law_told) := ⟨rfl, rfl, rfl, by decide +kernel, rfl, by decide +kernel, by decide +kernel⟩
abbrev s__law_says : Stmt := top 44
abbrev n__law_says : List Str := ["_law_hand", "_law_run", "_law_sieve", "_law_row", "_law_words", "_law_there", "_law_word", "_law_entry"]
theorem sc__law_says : FnScope n__law_says ["_law_hand", "_law_run", "_law_sieve", "_law_row", "_law_words"] (defScope s__law_says) := ⟨rfl, rfl, rfl, by decide +kernel, rfl, by decide +kernel, by decide +kernel⟩
abbrev s_law : Stmt := top 45
abbrev n_law : List Str := ["_law_script", "_law_entries_here", "_law_row", "_law_hand", "_law_entry", "_law_words", "_law_stamps_here", "_law_bounds", "_law_part", "_law_bare", "_law_number", "_law_run", "_law_sieve", "_law_made", "_law_due"]
theorem sc_law : FnScope n_law ["_law_script"] (defScope s_law) := ⟨rfl, rfl, rfl, by decide +kernel, rfl, by decide +kernel, by decide +kernel⟩
def tf : List He.Defn := (("_wall", none)) :: (("probe", none)) :: (("places", none)) :: (("sieve_of", none)) :: (("may_have", none)) :: (("place_of", none)) :: (("sieve_for", none)) :: (("run_of", none)) :: (("first_from", none)) :: (("find", none)) :: (("between", none)) :: (("name_of", none)) :: (("Part", some "called")) :: (("Part", some "says")) :: (("Part", some "find")) :: (("Part", some "between")) :: (("InHand", some "__init__")) :: (("InHand", some "called")) :: (("InHand", some "says")) :: (("InHand", some "find")) :: (("InHand", some "between")) :: (("InRun", some "__init__")) :: (("InRun", some "called")) :: (("InRun", some "says")) :: (("InRun", some "find")) :: (("InRun", some "between")) :: (("Hand", some "__init__")) :: (("Hand", some "put")) :: (("Hand", some "find")) :: (("Hand", some "many")) :: (("Hand", some "greatest")) :: (("Hand", some "rows")) :: (("Hand", some "between")) :: (("Hand", some "clear")) :: (("_law_cell_at", none)) :: (("_law_whole", none)) :: (("_law_stream", none)) :: (("_law_sign", none)) :: (("_law_text", none)) :: (("_law_keys", none)) :: (("_law_value", none)) :: (("_law_entries", none)) :: (("_law_ordered", none)) :: (("_law_rows", none)) :: (("_law_stamps", none)) :: (("_law_all_entries", none)) :: (("_law_many", none)) :: (("_law_first", none)) :: (("_law_seen", none)) :: (("_law_between", none)) :: (("_law_told", none)) :: (("_law_says", none)) :: (("law", none)) :: []
structure Txt (K : Fg) (mg : Str → Option Value) : Prop where
  m_all : mg "all" = none
  m_bool : mg "bool" = none
  m_int : mg "int" = none
  m_isinstance : mg "isinstance" = none
  m_len : mg "len" = none
  m_list : mg "list" = none
  m_max : mg "max" = none
  m_min : mg "min" = none
  m_ord : mg "ord" = none
  m_range : mg "range" = none
  m_set : mg "set" = none
  m_sorted : mg "sorted" = none
  m_str : mg "str" = none
  m_tuple : mg "tuple" = none
  m_zip : mg "zip" = none
  c_FACTORS : mg "FACTORS" = some (.ref (He.ga K "FACTORS")) ∧ ∀ H', Rep K H' (.ref (He.ga K "FACTORS")) (.tup [.int 31, .int 37, .int 41])
  c_LAST_STAMP : ∃ t, mg "LAST_STAMP" = some (.int 999999999 t)
  c_LEAST_SIZE : ∃ t, mg "LEAST_SIZE" = some (.int 8 t)
  g_probe : mg "probe" = some (.ref (He.ga K "probe"))
  F_probe : FnD K "probe" "probe" s_probe [] ("probe", none)
  k_probe : PySem.W.keepIn K (.ref (He.ga K "probe")) = true
  g_places : mg "places" = some (.ref (He.ga K "places"))
  F_places : FnD K "places" "places" s_places [] ("places", none)
  k_places : PySem.W.keepIn K (.ref (He.ga K "places")) = true
  g_sieve_of : mg "sieve_of" = some (.ref (He.ga K "sieve_of"))
  F_sieve_of : FnD K "sieve_of" "sieve_of" s_sieve_of [] ("sieve_of", none)
  k_sieve_of : PySem.W.keepIn K (.ref (He.ga K "sieve_of")) = true
  g_may_have : mg "may_have" = some (.ref (He.ga K "may_have"))
  F_may_have : FnD K "may_have" "may_have" s_may_have [] ("may_have", none)
  k_may_have : PySem.W.keepIn K (.ref (He.ga K "may_have")) = true
  g_place_of : mg "place_of" = some (.ref (He.ga K "place_of"))
  F_place_of : FnD K "place_of" "place_of" s_place_of [] ("place_of", none)
  k_place_of : PySem.W.keepIn K (.ref (He.ga K "place_of")) = true
  g_sieve_for : mg "sieve_for" = some (.ref (He.ga K "sieve_for"))
  F_sieve_for : FnD K "sieve_for" "sieve_for" s_sieve_for [] ("sieve_for", none)
  k_sieve_for : PySem.W.keepIn K (.ref (He.ga K "sieve_for")) = true
  g_run_of : mg "run_of" = some (.ref (He.ga K "run_of"))
  F_run_of : FnD K "run_of" "run_of" s_run_of [] ("run_of", none)
  k_run_of : PySem.W.keepIn K (.ref (He.ga K "run_of")) = true
  g_first_from : mg "first_from" = some (.ref (He.ga K "first_from"))
  F_first_from : FnD K "first_from" "first_from" s_first_from [] ("first_from", none)
  k_first_from : PySem.W.keepIn K (.ref (He.ga K "first_from")) = true
  g_find : mg "find" = some (.ref (He.ga K "find"))
  F_find : FnD K "find" "find" s_find [] ("find", none)
  k_find : PySem.W.keepIn K (.ref (He.ga K "find")) = true
  g_between : mg "between" = some (.ref (He.ga K "between"))
  F_between : FnD K "between" "between" s_between [] ("between", none)
  k_between : PySem.W.keepIn K (.ref (He.ga K "between")) = true
  g_name_of : mg "name_of" = some (.ref (He.ga K "name_of"))
  F_name_of : FnD K "name_of" "name_of" s_name_of [] ("name_of", none)
  k_name_of : PySem.W.keepIn K (.ref (He.ga K "name_of")) = true
  g__law_cell_at : mg "_law_cell_at" = some (.ref (He.ga K "_law_cell_at"))
  F__law_cell_at : FnD K "_law_cell_at" "_law_cell_at" s__law_cell_at [] ("_law_cell_at", none)
  k__law_cell_at : PySem.W.keepIn K (.ref (He.ga K "_law_cell_at")) = true
  g__law_whole : mg "_law_whole" = some (.ref (He.ga K "_law_whole"))
  F__law_whole : FnD K "_law_whole" "_law_whole" s__law_whole [] ("_law_whole", none)
  k__law_whole : PySem.W.keepIn K (.ref (He.ga K "_law_whole")) = true
  g__law_stream : mg "_law_stream" = some (.ref (He.ga K "_law_stream"))
  F__law_stream : FnD K "_law_stream" "_law_stream" s__law_stream [] ("_law_stream", none)
  k__law_stream : PySem.W.keepIn K (.ref (He.ga K "_law_stream")) = true
  g__law_sign : mg "_law_sign" = some (.ref (He.ga K "_law_sign"))
  F__law_sign : FnD K "_law_sign" "_law_sign" s__law_sign [] ("_law_sign", none)
  k__law_sign : PySem.W.keepIn K (.ref (He.ga K "_law_sign")) = true
  g__law_text : mg "_law_text" = some (.ref (He.ga K "_law_text"))
  F__law_text : FnD K "_law_text" "_law_text" s__law_text [] ("_law_text", none)
  k__law_text : PySem.W.keepIn K (.ref (He.ga K "_law_text")) = true
  g__law_keys : mg "_law_keys" = some (.ref (He.ga K "_law_keys"))
  F__law_keys : FnD K "_law_keys" "_law_keys" s__law_keys [] ("_law_keys", none)
  k__law_keys : PySem.W.keepIn K (.ref (He.ga K "_law_keys")) = true
  g__law_value : mg "_law_value" = some (.ref (He.ga K "_law_value"))
  F__law_value : FnD K "_law_value" "_law_value" s__law_value [] ("_law_value", none)
  k__law_value : PySem.W.keepIn K (.ref (He.ga K "_law_value")) = true
  g__law_entries : mg "_law_entries" = some (.ref (He.ga K "_law_entries"))
  F__law_entries : FnD K "_law_entries" "_law_entries" s__law_entries [] ("_law_entries", none)
  k__law_entries : PySem.W.keepIn K (.ref (He.ga K "_law_entries")) = true
  g__law_ordered : mg "_law_ordered" = some (.ref (He.ga K "_law_ordered"))
  F__law_ordered : FnD K "_law_ordered" "_law_ordered" s__law_ordered [] ("_law_ordered", none)
  k__law_ordered : PySem.W.keepIn K (.ref (He.ga K "_law_ordered")) = true
  g__law_stamps : mg "_law_stamps" = some (.ref (He.ga K "_law_stamps"))
  F__law_stamps : FnD K "_law_stamps" "_law_stamps" s__law_stamps [] ("_law_stamps", none)
  k__law_stamps : PySem.W.keepIn K (.ref (He.ga K "_law_stamps")) = true
  g__law_all_entries : mg "_law_all_entries" = some (.ref (He.ga K "_law_all_entries"))
  F__law_all_entries : FnD K "_law_all_entries" "_law_all_entries" s__law_all_entries [] ("_law_all_entries", none)
  k__law_all_entries : PySem.W.keepIn K (.ref (He.ga K "_law_all_entries")) = true
  g__law_many : mg "_law_many" = some (.ref (He.ga K "_law_many"))
  F__law_many : FnD K "_law_many" "_law_many" s__law_many [] ("_law_many", none)
  k__law_many : PySem.W.keepIn K (.ref (He.ga K "_law_many")) = true
  g__law_first : mg "_law_first" = some (.ref (He.ga K "_law_first"))
  F__law_first : FnD K "_law_first" "_law_first" s__law_first [] ("_law_first", none)
  k__law_first : PySem.W.keepIn K (.ref (He.ga K "_law_first")) = true
  g__law_between : mg "_law_between" = some (.ref (He.ga K "_law_between"))
  F__law_between : FnD K "_law_between" "_law_between" s__law_between [] ("_law_between", none)
  k__law_between : PySem.W.keepIn K (.ref (He.ga K "_law_between")) = true
  g__law_told : mg "_law_told" = some (.ref (He.ga K "_law_told"))
  F__law_told : FnD K "_law_told" "_law_told" s__law_told [] ("_law_told", none)
  k__law_told : PySem.W.keepIn K (.ref (He.ga K "_law_told")) = true
  g__law_says : mg "_law_says" = some (.ref (He.ga K "_law_says"))
  F__law_says : FnD K "_law_says" "_law_says" s__law_says [] ("_law_says", none)
  k__law_says : PySem.W.keepIn K (.ref (He.ga K "_law_says")) = true
  g_law : mg "law" = some (.ref (He.ga K "law"))
  F_law : FnD K "law" "law" s_law [] ("law", none)
  k_law : PySem.W.keepIn K (.ref (He.ga K "law")) = true
  F_Part_called : FnD K "called" "Part.called" s_Part_called ([] : List V) ("Part", some "called")
  F_Part_says : FnD K "says" "Part.says" s_Part_says ([] : List V) ("Part", some "says")
  F_Part_find : FnD K "find" "Part.find" s_Part_find ([] : List V) ("Part", some "find")
  F_Part_between : FnD K "between" "Part.between" s_Part_between ([] : List V) ("Part", some "between")
  F_InHand___init__ : FnD K "__init__" "InHand.__init__" s_InHand___init__ ([] : List V) ("InHand", some "__init__")
  F_InHand_called : FnD K "called" "InHand.called" s_InHand_called ([] : List V) ("InHand", some "called")
  F_InHand_says : FnD K "says" "InHand.says" s_InHand_says ([] : List V) ("InHand", some "says")
  F_InHand_find : FnD K "find" "InHand.find" s_InHand_find ([] : List V) ("InHand", some "find")
  F_InHand_between : FnD K "between" "InHand.between" s_InHand_between ([] : List V) ("InHand", some "between")
  F_InRun___init__ : FnD K "__init__" "InRun.__init__" s_InRun___init__ ([] : List V) ("InRun", some "__init__")
  F_InRun_called : FnD K "called" "InRun.called" s_InRun_called ([] : List V) ("InRun", some "called")
  F_InRun_says : FnD K "says" "InRun.says" s_InRun_says ([] : List V) ("InRun", some "says")
  F_InRun_find : FnD K "find" "InRun.find" s_InRun_find ([] : List V) ("InRun", some "find")
  F_InRun_between : FnD K "between" "InRun.between" s_InRun_between ([] : List V) ("InRun", some "between")
  F_Hand___init__ : FnD K "__init__" "Hand.__init__" s_Hand___init__ ([] : List V) ("Hand", some "__init__")
  F_Hand_put : FnD K "put" "Hand.put" s_Hand_put ([] : List V) ("Hand", some "put")
  F_Hand_find : FnD K "find" "Hand.find" s_Hand_find ([] : List V) ("Hand", some "find")
  F_Hand_greatest : FnD K "greatest" "Hand.greatest" s_Hand_greatest ([] : List V) ("Hand", some "greatest")
  F_Hand_rows : FnD K "rows" "Hand.rows" s_Hand_rows ([] : List V) ("Hand", some "rows")
  F_Hand_between : FnD K "between" "Hand.between" s_Hand_between ([.str "", .non] : List V) ("Hand", some "between")
  g_between_runs : mg "between_runs" = some (.ref (He.ga K "between_runs"))
  a_between_runs : (He.ga K "between_runs" == He.ga K "between") = true
  g_find_runs : mg "find_runs" = some (.ref (He.ga K "find_runs"))
  a_find_runs : (He.ga K "find_runs" == He.ga K "find") = true
  g_Hand : mg "Hand" = some (.ref (He.ga K "Hand"))
  g_InHand : mg "InHand" = some (.ref (He.ga K "InHand"))
  g_InRun : mg "InRun" = some (.ref (He.ga K "InRun"))
  g_Part : mg "Part" = some (.ref (He.ga K "Part"))
  x_InHand : XCl K cl_InHand
  x_Hand : XCl K cl_Hand
  x_InRun : XCl K cl_InRun
  x_Part_InHand_InRun : XCl K cl_Part_InHand_InRun
  x_Part_InRun : XCl K cl_Part_InRun
  x_Part : XCl K cl_Part
  i_Part : init0B "Part" K = true
  o_Part_Part_InHand_InRun : isosB "Part" ["Part", "InHand", "InRun"] K = true
section
variable {P : Program} {w : World} {K : Fg} {mg : Str → Option Value} {base : Heap}
abbrev In_probe (P : Program) (w : World) (K : Fg) (mg : Str → Option Value) (base : Heap) : Prop := InOk P w K mg base 1 "probe" ["key", "size"] W_probe_in
theorem dv_probe_in (T : Txt K mg)  (hw : ∀ ds ω Φ, W_probe_in ds ω Φ → (b_probe_in : BS K).w (startD 5 ds) ω ⟨fun _ ω => Φ .non ω, Φ, fun _ _ => False, fun _ _ => False, fun _ _ _ => False⟩) : In_probe P w K mg base :=
  fnPIn (K := K) (W := W_probe_in) (k := 0) (n := 5) (N := n_probe_in) (st := s_probe) (ist := s_probe_in) T.F_probe rfl rfl sc_probe_in (free_one (by decide +kernel)) rfl b_probe_in (fun _ _ _ _ _ _ us hl => match us, hl with | [_, _], _ => rfl) len_probe_in (fun q cl c f A outer s H E hr => S_cons (S_set (i := 3) sc_probe_in.nd (P_int)) (S_cons (S_for PassesOwn.never (I_seq (P_var 0)) (G_n 4 sc_probe_in.nd) (S_one (S_set (i := 3) sc_probe_in.nd (P_op op_oMod (P_op op_oAdd (P_op op_oMul (P_var 3) (P_var 2)) (P_B (call_cOrd) T.m_ord (by decide +kernel) (A_c (P_var 4) (A_n)))) (P_int))))) (S_one (S_ret (P_op op_oMod (P_var 3) (P_var 1)))))) hw
abbrev Ok_probe (P : Program) (w : World) (K : Fg) (mg : Str → Option Value) (base : Heap) : Prop := OkP P w K mg base 1 ("probe", none) ["factor"] (WClo "probe")
theorem dv_probe (T : Txt K mg) (TK : TabK K tf) (TB : TabsB base mg K tf) : Ok_probe P w K mg base :=
  fnPClo (K := K) (k := 0) TK TB (by decide +kernel) T.F_probe sc_probe rfl (fun _ _ _ _ _ _ us hl => match us, hl with | [_], _ => rfl) (by decide +kernel) (fun cells c h => by simp [cloFrom, h]) rfl rfl (fun _ => rfl) rfl (by decide) (by decide)
abbrev Ok_places (P : Program) (w : World) (K : Fg) (mg : Str → Option Value) (base : Heap) : Prop := OkP P w K mg base 2 ("places", none) ["key", "size"] W_places
theorem dv_places (T : Txt K mg)  (ok_probe : Ok_probe P w K mg base) (in_probe : In_probe P w K mg base) (hw : ∀ ds ω Φ, W_places ds ω Φ → (b_places : BS K).w (startD 4 ds) ω ⟨fun _ ω => Φ .non ω, Φ, fun _ _ => False, fun _ _ => False, fun _ _ _ => False⟩) : Ok_places P w K mg base :=
  fnPD (K := K) (W := W_places) (k := 1) (n := 4) (N := n_places) (st := s_places) T.F_places sc_places rfl b_places (fun _ _ _ _ _ _ us hl => match us, hl with | [_, _], _ => rfl) len_places (fun f cdv A outer s H E hr => S_one (S_ret (P_lc (own := [("place_of", 2)]) sc_places.nd (I_seq (P_lc (own := [("factor", 3)]) sc_places.nd (I_seq (P_globK T.c_FACTORS)) (blkOk_by (N := n_places) (sc := defScope s_places) (by decide +kernel)) (fun _ _ _ _ _ => G_n 3 sc_places.nd) (fun _ _ _ _ _ => Ts_n) (fun _ _ _ _ _ => P_callE ok_probe (hr.mono (by decide)) T.g_probe T.k_probe (A_c (P_var 3) (A_n))))) (blkOk_by (N := n_places) (sc := defScope s_places) (by decide +kernel)) (fun _ _ _ _ _ => G_n 2 sc_places.nd) (fun _ _ _ _ _ => Ts_n) (fun _ _ _ _ _ => P_clo 2 in_probe (hr.mono (by decide)) (A_c (P_var 0) (A_c (P_var 1) (A_n))))))) hw
abbrev Ok_sieve_of (P : Program) (w : World) (K : Fg) (mg : Str → Option Value) (base : Heap) : Prop := OkP P w K mg base 3 ("sieve_of", none) ["keys"] W_sieve_of
theorem dv_sieve_of (T : Txt K mg)  (ok_places : Ok_places P w K mg base) (hw : ∀ ds ω Φ, W_sieve_of ds ω Φ → (b_sieve_of : BS K).w (startD 5 ds) ω ⟨fun _ ω => Φ .non ω, Φ, fun _ _ => False, fun _ _ => False, fun _ _ _ => False⟩) : Ok_sieve_of P w K mg base :=
  fnPD (K := K) (W := W_sieve_of) (k := 2) (n := 5) (N := n_sieve_of) (st := s_sieve_of) T.F_sieve_of sc_sieve_of rfl b_sieve_of (fun _ _ _ _ _ _ us hl => match us, hl with | [_], _ => rfl) len_sieve_of (fun f cdv A outer s H E hr => S_cons (S_set (i := 1) sc_sieve_of.nd (P_B (call_max2 rfl) T.m_max (by decide +kernel) (A_c (P_globI T.c_LEAST_SIZE) (A_c (P_op op_oMul (P_globI T.c_LEAST_SIZE) (P_lenSetS T.m_len T.m_set (P_var 0))) (A_n))))) (S_cons (S_set (i := 2) sc_sieve_of.nd (P_int)) (S_cons (S_for PassesOwn.never (I_seq (P_var 0)) (G_n 3 sc_sieve_of.nd) (S_one (S_for PassesOwn.never (I_seq (P_callE ok_places (hr.mono (by decide)) T.g_places T.k_places (A_c (P_var 3) (A_c (P_var 1) (A_n))))) (G_n 4 sc_sieve_of.nd) (S_one (S_set (i := 2) sc_sieve_of.nd (P_op op_oOr (P_var 2) (P_op op_oShl (P_int) (P_var 4)))))))) (S_one (S_ret (P_tup (A_c (P_var 1) (A_c (P_var 2) (A_n))))))))) hw
abbrev Ok_may_have (P : Program) (w : World) (K : Fg) (mg : Str → Option Value) (base : Heap) : Prop := OkP P w K mg base 3 ("may_have", none) ["sieve", "key"] W_may_have
theorem dv_may_have (T : Txt K mg)  (ok_places : Ok_places P w K mg base) (hw : ∀ ds ω Φ, W_may_have ds ω Φ → (b_may_have : BS K).w (startD 3 ds) ω ⟨fun _ ω => Φ .non ω, Φ, fun _ _ => False, fun _ _ => False, fun _ _ _ => False⟩) : Ok_may_have P w K mg base :=
  fnPD (K := K) (W := W_may_have) (k := 2) (n := 3) (N := n_may_have) (st := s_may_have) T.F_may_have sc_may_have rfl b_may_have (fun _ _ _ _ _ _ us hl => match us, hl with | [_, _], _ => rfl) len_may_have (fun f cdv A outer s H E hr => S_one (S_ret (P_B (call_all) T.m_all (by decide +kernel) (A_c (P_lc (own := [("place", 2)]) sc_may_have.nd (I_seq (P_callE ok_places (hr.mono (by decide)) T.g_places T.k_places (A_c (P_var 1) (A_c (P_ix (P_var 0) (P_int)) (A_n))))) (blkOk_by (N := n_may_have) (sc := defScope s_may_have) (by decide +kernel)) (fun _ _ _ _ _ => G_n 2 sc_may_have.nd) (fun _ _ _ _ _ => Ts_n) (fun _ _ _ _ _ => P_cmp (op_oEq (hq_of hr)) (P_op op_oAnd (P_op op_oShr (P_ix (P_var 0) (P_int)) (P_var 2)) (P_int)) (P_int))) (A_n))))) hw
abbrev Ok_place_of (P : Program) (w : World) (K : Fg) (mg : Str → Option Value) (base : Heap) : Prop := OkP P w K mg base 1 ("place_of", none) ["entry"] W_place_of
theorem dv_place_of (T : Txt K mg)   (hw : ∀ ds ω Φ, W_place_of ds ω Φ → (b_place_of : BS K).w (startD 1 ds) ω ⟨fun _ ω => Φ .non ω, Φ, fun _ _ => False, fun _ _ => False, fun _ _ _ => False⟩) : Ok_place_of P w K mg base :=
  fnPD (K := K) (W := W_place_of) (k := 0) (n := 1) (N := n_place_of) (st := s_place_of) T.F_place_of sc_place_of rfl b_place_of (fun _ _ _ _ _ _ us hl => match us, hl with | [_], _ => rfl) len_place_of (fun f cdv A outer s H E hr => S_one (S_ret (P_tup (A_c (P_ix (P_var 0) (P_int)) (A_c (P_neg (P_ix (P_var 0) (P_int))) (A_n)))))) hw
abbrev Ok_sieve_for (P : Program) (w : World) (K : Fg) (mg : Str → Option Value) (base : Heap) : Prop := OkP P w K mg base 4 ("sieve_for", none) ["entries"] W_sieve_for
theorem dv_sieve_for (T : Txt K mg)  (ok_sieve_of : Ok_sieve_of P w K mg base) (hw : ∀ ds ω Φ, W_sieve_for ds ω Φ → (b_sieve_for : BS K).w (startD 2 ds) ω ⟨fun _ ω => Φ .non ω, Φ, fun _ _ => False, fun _ _ => False, fun _ _ _ => False⟩) : Ok_sieve_for P w K mg base :=
  fnPD (K := K) (W := W_sieve_for) (k := 3) (n := 2) (N := n_sieve_for) (st := s_sieve_for) T.F_sieve_for sc_sieve_for rfl b_sieve_for (fun _ _ _ _ _ _ us hl => match us, hl with | [_], _ => rfl) len_sieve_for (fun f cdv A outer s H E hr => S_one (S_ret (P_callE ok_sieve_of (hr.mono (by decide)) T.g_sieve_of T.k_sieve_of (A_c (P_lc (own := [("entry", 1)]) sc_sieve_for.nd (I_seq (P_var 0)) (blkOk_by (N := n_sieve_for) (sc := defScope s_sieve_for) (by decide +kernel)) (fun _ _ _ _ _ => G_n 1 sc_sieve_for.nd) (fun _ _ _ _ _ => Ts_n) (fun _ _ _ _ _ => P_ix (P_var 1) (P_int))) (A_n))))) hw
abbrev Ok_run_of (P : Program) (w : World) (K : Fg) (mg : Str → Option Value) (base : Heap) : Prop := OkP P w K mg base 5 ("run_of", none) ["entries"] W_run_of
theorem dv_run_of (T : Txt K mg)  (ok_place_of : Ok_place_of P w K mg base) (ok_sieve_for : Ok_sieve_for P w K mg base) (hw : ∀ ds ω Φ, W_run_of ds ω Φ → (b_run_of : BS K).w (startD 2 ds) ω ⟨fun _ ω => Φ .non ω, Φ, fun _ _ => False, fun _ _ => False, fun _ _ _ => False⟩) : Ok_run_of P w K mg base :=
  fnPD (K := K) (W := W_run_of) (k := 4) (n := 2) (N := n_run_of) (st := s_run_of) T.F_run_of sc_run_of rfl b_run_of (fun _ _ _ _ _ _ us hl => match us, hl with | [_], _ => rfl) len_run_of (fun f cdv A outer s H E hr => S_cons (S_set (i := 1) sc_run_of.nd (P_sortK (PKey.fn ok_place_of rfl (hr.mono (by decide)) T.g_place_of) T.m_sorted (A_c (P_var 0) (A_n)) hr)) (S_one (S_ret (P_tup (A_c (P_callE ok_sieve_for (hr.mono (by decide)) T.g_sieve_for T.k_sieve_for (A_c (P_var 1) (A_n))) (A_c (P_Ty call_cTuple T.m_tuple (by decide +kernel) (A_c (P_var 1) (A_n))) (A_n))))))) hw
abbrev Ok_first_from (P : Program) (w : World) (K : Fg) (mg : Str → Option Value) (base : Heap) : Prop := OkP P w K mg base 2 ("first_from", none) ["entries", "place"] W_first_from
theorem dv_first_from (T : Txt K mg)  (ok_place_of : Ok_place_of P w K mg base) (hw : ∀ ds ω Φ, W_first_from ds ω Φ → (b_first_from : BS K).w (startD 5 ds) ω ⟨fun _ ω => Φ .non ω, Φ, fun _ _ => False, fun _ _ => False, fun _ _ _ => False⟩) : Ok_first_from P w K mg base :=
  fnPD (K := K) (W := W_first_from) (k := 1) (n := 5) (N := n_first_from) (st := s_first_from) T.F_first_from sc_first_from rfl b_first_from (fun _ _ _ _ _ _ us hl => match us, hl with | [_, _], _ => rfl) len_first_from (fun f cdv A outer s H E hr => S_cons (S_set (i := 2) sc_first_from.nd (P_int)) (S_cons (S_set (i := 3) sc_first_from.nd (P_B (call_cLen) T.m_len (by decide +kernel) (A_c (P_var 0) (A_n)))) (S_cons (S_while PassesOwn.never (T_cmp (op_oLt) (P_var 2) (P_var 3)) (S_cons (S_set (i := 4) sc_first_from.nd (P_op op_oDiv (P_op op_oAdd (P_var 2) (P_var 3)) (P_int))) (S_one (S_if (T_cmp (op_oLtDD hr) (P_callE ok_place_of (hr.mono (by decide)) T.g_place_of T.k_place_of (A_c (P_ix (P_var 0) (P_var 4)) (A_n))) (P_var 1)) (S_one (S_set (i := 2) sc_first_from.nd (P_op op_oAdd (P_var 4) (P_int)))) (S_one (S_set (i := 3) sc_first_from.nd (P_var 4))))))) (S_one (S_ret (P_var 2)))))) hw
abbrev Ok_find (P : Program) (w : World) (K : Fg) (mg : Str → Option Value) (base : Heap) : Prop := OkP P w K mg base 4 ("find", none) ["run", "key", "stamp"] W_find
theorem dv_find (T : Txt K mg)  (ok_first_from : Ok_first_from P w K mg base) (ok_may_have : Ok_may_have P w K mg base) (hw : ∀ ds ω Φ, W_find ds ω Φ → (b_find : BS K).w (startD 6 ds) ω ⟨fun _ ω => Φ .non ω, Φ, fun _ _ => False, fun _ _ => False, fun _ _ _ => False⟩) : Ok_find P w K mg base :=
  fnPD (K := K) (W := W_find) (k := 3) (n := 6) (N := n_find) (st := s_find) T.F_find sc_find rfl b_find (fun _ _ _ _ _ _ us hl => match us, hl with | [_, _, _], _ => rfl) len_find (fun f cdv A outer s H E hr => S_cons (S_asg (P_var 0) (G_t (Gs_c (G_n 3 sc_find.nd) (Gs_c (G_n 4 sc_find.nd) (Gs_n))))) (S_cons (S_if (T_not (T_tru (P_callE ok_may_have (hr.mono (by decide)) T.g_may_have T.k_may_have (A_c (P_var 3) (A_c (P_var 1) (A_n)))))) (S_one (S_ret (P_non))) (S_nil)) (S_cons (S_set (i := 5) sc_find.nd (P_callE ok_first_from (hr.mono (by decide)) T.g_first_from T.k_first_from (A_c (P_var 4) (A_c (P_tup (A_c (P_var 1) (A_c (P_neg (P_var 2)) (A_n)))) (A_n))))) (S_cons (S_if (PW.pt (W_and (T_cmp (op_oLt) (P_var 5) (P_B (call_cLen) T.m_len (by decide +kernel) (A_c (P_var 4) (A_n)))) (W_and1 (T_cmp (op_oEq (hq_of hr)) (P_ix (P_ix (P_var 4) (P_var 5)) (P_int)) (P_var 1))))) (S_one (S_ret (P_ix (P_var 4) (P_var 5)))) (S_nil)) (S_one (S_ret (P_non))))))) hw
abbrev Ok_between (P : Program) (w : World) (K : Fg) (mg : Str → Option Value) (base : Heap) : Prop := OkP P w K mg base 3 ("between", none) ["run", "low", "high"] W_between
theorem dv_between (T : Txt K mg)  (ok_first_from : Ok_first_from P w K mg base) (hw : ∀ ds ω Φ, W_between ds ω Φ → (b_between : BS K).w (startD 5 ds) ω ⟨fun _ ω => Φ .non ω, Φ, fun _ _ => False, fun _ _ => False, fun _ _ _ => False⟩) : Ok_between P w K mg base :=
  fnPD (K := K) (W := W_between) (k := 2) (n := 5) (N := n_between) (st := s_between) T.F_between sc_between rfl b_between (fun _ _ _ _ _ _ us hl => match us, hl with | [_, _, _], _ => rfl) len_between (fun f cdv A outer s H E hr => S_cons (S_set (i := 3) sc_between.nd (P_ix (P_var 0) (P_int))) (S_cons (S_set (i := 4) sc_between.nd (P_callE ok_first_from (hr.mono (by decide)) T.g_first_from T.k_first_from (A_c (P_var 3) (A_c (P_tup (A_c (P_var 1) (A_c (P_op op_oSub (P_neg (P_op op_oPow (P_int) (P_int))) (P_int)) (A_n)))) (A_n))))) (S_cons (S_if (T_cmp (op_oIs) (P_var 2) (P_non)) (S_one (S_ret (P_Ty call_cList T.m_list (by decide +kernel) (A_c (P_sl (P_var 3) (O_s (P_var 4)) (O_n)) (A_n))))) (S_nil)) (S_one (S_ret (P_Ty call_cList T.m_list (by decide +kernel) (A_c (P_sl (P_var 3) (O_s (P_var 4)) (O_s (P_B (call_max2 rfl) T.m_max (by decide +kernel) (A_c (P_var 4) (A_c (P_callE ok_first_from (hr.mono (by decide)) T.g_first_from T.k_first_from (A_c (P_var 3) (A_c (P_tup (A_c (P_var 2) (A_c (P_op op_oSub (P_neg (P_op op_oPow (P_int) (P_int))) (P_int)) (A_n)))) (A_n)))) (A_n)))))) (A_n)))))))) hw
abbrev Ok_name_of (P : Program) (w : World) (K : Fg) (mg : Str → Option Value) (base : Heap) : Prop := OkP P w K mg base 1 ("name_of", none) ["number"] W_name_of
theorem dv_name_of (T : Txt K mg)   (hw : ∀ ds ω Φ, W_name_of ds ω Φ → (b_name_of : BS K).w (startD 1 ds) ω ⟨fun _ ω => Φ .non ω, Φ, fun _ _ => False, fun _ _ => False, fun _ _ _ => False⟩) : Ok_name_of P w K mg base :=
  fnPD (K := K) (W := W_name_of) (k := 0) (n := 1) (N := n_name_of) (st := s_name_of) T.F_name_of sc_name_of rfl b_name_of (fun _ _ _ _ _ _ us hl => match us, hl with | [_], _ => rfl) len_name_of (fun f cdv A outer s H E hr => S_one (S_ret (P_op op_oAdd (P_lit) (P_M PySem.F.plainAttrs_str PySem.F.slot_str_zfill PySem.F.type_str_zfill mt_zfill_ (P_Ty call_cStr T.m_str (by decide +kernel) (A_c (P_var 0) (A_n))) (A_c (P_int) (A_n)))))) hw
abbrev Ok_Part_called (P : Program) (w : World) (K : Fg) (mg : Str → Option Value) (base : Heap) : Prop := OkP P w K mg base 1 ("Part", some "called") ["self"] W_Part_called
theorem dv_Part_called (T : Txt K mg)   (hw : ∀ ds ω Φ, W_Part_called ds ω Φ → (b_Part_called : BS K).w (startD 1 ds) ω ⟨fun _ ω => Φ .non ω, Φ, fun _ _ => False, fun _ _ => False, fun _ _ _ => False⟩) : Ok_Part_called P w K mg base :=
  fnPD (K := K) (W := W_Part_called) (k := 0) (n := 1) (N := n_Part_called) (st := s_Part_called) T.F_Part_called sc_Part_called rfl b_Part_called (fun _ _ _ _ _ _ us hl => match us, hl with | [_], _ => rfl) len_Part_called (fun f cdv A outer s H E hr => S_one (S_ret (P_lit))) hw
abbrev Ok_Part_says (P : Program) (w : World) (K : Fg) (mg : Str → Option Value) (base : Heap) : Prop := OkP P w K mg base 1 ("Part", some "says") ["self", "key"] W_Part_says
theorem dv_Part_says (T : Txt K mg)   (hw : ∀ ds ω Φ, W_Part_says ds ω Φ → (b_Part_says : BS K).w (startD 2 ds) ω ⟨fun _ ω => Φ .non ω, Φ, fun _ _ => False, fun _ _ => False, fun _ _ _ => False⟩) : Ok_Part_says P w K mg base :=
  fnPD (K := K) (W := W_Part_says) (k := 0) (n := 2) (N := n_Part_says) (st := s_Part_says) T.F_Part_says sc_Part_says rfl b_Part_says (fun _ _ _ _ _ _ us hl => match us, hl with | [_, _], _ => rfl) len_Part_says (fun f cdv A outer s H E hr => S_one (S_ret (P_bl))) hw
abbrev Ok_Part_find (P : Program) (w : World) (K : Fg) (mg : Str → Option Value) (base : Heap) : Prop := OkP P w K mg base 1 ("Part", some "find") ["self", "key", "stamp"] W_Part_find
theorem dv_Part_find (T : Txt K mg)   (hw : ∀ ds ω Φ, W_Part_find ds ω Φ → (b_Part_find : BS K).w (startD 3 ds) ω ⟨fun _ ω => Φ .non ω, Φ, fun _ _ => False, fun _ _ => False, fun _ _ _ => False⟩) : Ok_Part_find P w K mg base :=
  fnPD (K := K) (W := W_Part_find) (k := 0) (n := 3) (N := n_Part_find) (st := s_Part_find) T.F_Part_find sc_Part_find rfl b_Part_find (fun _ _ _ _ _ _ us hl => match us, hl with | [_, _, _], _ => rfl) len_Part_find (fun f cdv A outer s H E hr => S_one (S_ret (P_non))) hw
abbrev Ok_Part_between (P : Program) (w : World) (K : Fg) (mg : Str → Option Value) (base : Heap) : Prop := OkP P w K mg base 1 ("Part", some "between") ["self", "low", "high"] W_Part_between
theorem dv_Part_between (T : Txt K mg)   (hw : ∀ ds ω Φ, W_Part_between ds ω Φ → (b_Part_between : BS K).w (startD 3 ds) ω ⟨fun _ ω => Φ .non ω, Φ, fun _ _ => False, fun _ _ => False, fun _ _ _ => False⟩) : Ok_Part_between P w K mg base :=
  fnPD (K := K) (W := W_Part_between) (k := 0) (n := 3) (N := n_Part_between) (st := s_Part_between) T.F_Part_between sc_Part_between rfl b_Part_between (fun _ _ _ _ _ _ us hl => match us, hl with | [_, _, _], _ => rfl) len_Part_between (fun f cdv A outer s H E hr => S_one (S_ret (P_lst (A_n)))) hw
abbrev Ok_InHand___init__ (P : Program) (w : World) (K : Fg) (mg : Str → Option Value) (base : Heap) : Prop := OkP P w K mg base 1 ("InHand", some "__init__") ["self", "hand"] W_InHand___init__
theorem dv_InHand___init__ (T : Txt K mg)   (hw : ∀ ds ω Φ, W_InHand___init__ ds ω Φ → (b_InHand___init__ : BS K).w (startD 2 ds) ω ⟨fun _ ω => Φ .non ω, Φ, fun _ _ => False, fun _ _ => False, fun _ _ _ => False⟩) : Ok_InHand___init__ P w K mg base :=
  fnPD (K := K) (W := W_InHand___init__) (k := 0) (n := 2) (N := n_InHand___init__) (st := s_InHand___init__) T.F_InHand___init__ sc_InHand___init__ rfl b_InHand___init__ (fun _ _ _ _ _ _ us hl => match us, hl with | [_, _], _ => rfl) len_InHand___init__ (fun f cdv A outer s H E hr => S_one (S_fld T.x_InHand (P_var 0) (P_var 1))) hw
abbrev Ok_InHand_called (P : Program) (w : World) (K : Fg) (mg : Str → Option Value) (base : Heap) : Prop := OkP P w K mg base 1 ("InHand", some "called") ["self"] W_InHand_called
theorem dv_InHand_called (T : Txt K mg)   (hw : ∀ ds ω Φ, W_InHand_called ds ω Φ → (b_InHand_called : BS K).w (startD 1 ds) ω ⟨fun _ ω => Φ .non ω, Φ, fun _ _ => False, fun _ _ => False, fun _ _ _ => False⟩) : Ok_InHand_called P w K mg base :=
  fnPD (K := K) (W := W_InHand_called) (k := 0) (n := 1) (N := n_InHand_called) (st := s_InHand_called) T.F_InHand_called sc_InHand_called rfl b_InHand_called (fun _ _ _ _ _ _ us hl => match us, hl with | [_], _ => rfl) len_InHand_called (fun f cdv A outer s H E hr => S_one (S_ret (P_lit))) hw
abbrev Ok_Hand_find (P : Program) (w : World) (K : Fg) (mg : Str → Option Value) (base : Heap) : Prop := OkP P w K mg base 1 ("Hand", some "find") ["self", "key", "stamp"] W_Hand_find
theorem dv_Hand_find (T : Txt K mg)   (hw : ∀ ds ω Φ, W_Hand_find ds ω Φ → (b_Hand_find : BS K).w (startD 6 ds) ω ⟨fun _ ω => Φ .non ω, Φ, fun _ _ => False, fun _ _ => False, fun _ _ _ => False⟩) : Ok_Hand_find P w K mg base :=
  fnPD (K := K) (W := W_Hand_find) (k := 0) (n := 6) (N := n_Hand_find) (st := s_Hand_find) T.F_Hand_find sc_Hand_find rfl b_Hand_find (fun _ _ _ _ _ _ us hl => match us, hl with | [_, _, _], _ => rfl) len_Hand_find (fun f cdv A outer s H E hr => S_cons (S_set (i := 3) sc_Hand_find.nd (P_dget2 (_root_.T.hu_of hr) (P_fld T.x_Hand (P_var 0)) (P_var 1) (P_dk))) (S_cons (S_set (i := 4) sc_Hand_find.nd (P_BK (call_cMaxD) T.m_max (by decide +kernel) (A_c (P_lock (P_lc (own := [("one", 5)]) sc_Hand_find.nd (I_keysF (P_var 3)) (blkOk_by (N := n_Hand_find) (sc := defScope s_Hand_find) (by decide +kernel)) (fun _ _ _ _ _ => G_n 5 sc_Hand_find.nd) (fun _ _ _ _ _ => Ts_1 (T_cmp (op_oLe) (P_var 5) (P_var 2))) (fun _ _ _ _ _ => P_var 5))) (A_n)) (K_c (P_non) K_n))) (S_cons (S_if (T_cmp (op_oIs) (P_var 4) (P_non)) (S_one (S_ret (P_non))) (S_nil)) (S_one (S_ret (P_tup (A_c (P_var 1) (A_c (P_var 4) (A_c (P_dget (_root_.T.hu_of hr) (P_var 3) (P_var 4)) (A_n)))))))))) hw
abbrev Ok_InHand_says (P : Program) (w : World) (K : Fg) (mg : Str → Option Value) (base : Heap) : Prop := OkP P w K mg base 2 ("InHand", some "says") ["self", "key"] W_InHand_says
theorem dv_InHand_says (T : Txt K mg)  (ok_Hand_find : Ok_Hand_find P w K mg base) (hw : ∀ ds ω Φ, W_InHand_says ds ω Φ → (b_InHand_says : BS K).w (startD 2 ds) ω ⟨fun _ ω => Φ .non ω, Φ, fun _ _ => False, fun _ _ => False, fun _ _ _ => False⟩) : Ok_InHand_says P w K mg base :=
  fnPD (K := K) (W := W_InHand_says) (k := 1) (n := 2) (N := n_InHand_says) (st := s_InHand_says) T.F_InHand_says sc_InHand_says rfl b_InHand_says (fun _ _ _ _ _ _ us hl => match us, hl with | [_, _], _ => rfl) len_InHand_says (fun f cdv A outer s H E hr => S_one (S_ret (P_cmp (op_oIsNot) (P_meth (n := true) T.x_Hand (MOk.cons (c := "Hand") (d := "Hand") (j := 0) (mm := true) (by decide) (OkC.toM (OkP.toC ok_Hand_find)) (hr.mono (by decide)) (by decide) (by decide) (MOk.nil)) takesK0 (P_fld T.x_InHand (P_var 0)) (A_c (P_var 1) (A_c (P_globI T.c_LAST_STAMP) (A_n)))) (P_non)))) hw
abbrev Ok_InHand_find (P : Program) (w : World) (K : Fg) (mg : Str → Option Value) (base : Heap) : Prop := OkP P w K mg base 2 ("InHand", some "find") ["self", "key", "stamp"] W_InHand_find
theorem dv_InHand_find (T : Txt K mg)  (ok_Hand_find : Ok_Hand_find P w K mg base) (hw : ∀ ds ω Φ, W_InHand_find ds ω Φ → (b_InHand_find : BS K).w (startD 3 ds) ω ⟨fun _ ω => Φ .non ω, Φ, fun _ _ => False, fun _ _ => False, fun _ _ _ => False⟩) : Ok_InHand_find P w K mg base :=
  fnPD (K := K) (W := W_InHand_find) (k := 1) (n := 3) (N := n_InHand_find) (st := s_InHand_find) T.F_InHand_find sc_InHand_find rfl b_InHand_find (fun _ _ _ _ _ _ us hl => match us, hl with | [_, _, _], _ => rfl) len_InHand_find (fun f cdv A outer s H E hr => S_one (S_ret (P_meth (n := true) T.x_Hand (MOk.cons (c := "Hand") (d := "Hand") (j := 0) (mm := true) (by decide) (OkC.toM (OkP.toC ok_Hand_find)) (hr.mono (by decide)) (by decide) (by decide) (MOk.nil)) takesK0 (P_fld T.x_InHand (P_var 0)) (A_c (P_var 1) (A_c (P_var 2) (A_n)))))) hw
abbrev Ok_Hand_rows (P : Program) (w : World) (K : Fg) (mg : Str → Option Value) (base : Heap) : Prop := OkP P w K mg base 4 ("Hand", some "rows") ["self"] W_Hand_rows
theorem dv_Hand_rows (T : Txt K mg) (TK : TabK K tf) (TB : TabsB base mg K tf)  (hw : ∀ ds ω Φ, W_Hand_rows ds ω Φ → (b_Hand_rows : BS K).w (startD 5 ds) ω ⟨fun _ ω => Φ .non ω, Φ, fun _ _ => False, fun _ _ => False, fun _ _ _ => False⟩) : Ok_Hand_rows P w K mg base :=
  fnPL (K := K) (W := W_Hand_rows) (k := 3) (n := 5) (N := n_Hand_rows) (st := s_Hand_rows) TK TB (p := ("Hand", some "rows")) (by decide +kernel) T.F_Hand_rows sc_Hand_rows rfl b_Hand_rows (fun _ _ _ _ _ _ us hl => match us, hl with | [_], _ => rfl) len_Hand_rows (fun f cdv A outer s H E hr lc => S_cons (S_set (i := 1) sc_Hand_rows.nd (P_lst (A_n))) (S_cons (S_for PassesOwn.never (I_seq (P_B call_cSortS T.m_sorted (by decide +kernel) (A_c (P_Ty call_cListK T.m_list (by decide +kernel) (A_c (P_fld T.x_Hand (P_var 0)) (A_n))) (A_n)))) (G_n 2 sc_Hand_rows.nd) (S_one (S_for PassesOwn.never (I_seq (P_sortRK (PKey.lam (k := 0) (N := ["pair"]) (fr := []) (p := "pair") (js := []) (n := 1) (bOp oIx (bVar 0) (bInt 0)) lc (hr.mono (by decide)) rfl (NdefX.nscope_by (by decide +kernel)) rfl (show NdefX.ndefB (defScope s_Hand_rows) _ _ = true from by decide +kernel) rfl (by decide) (fun _ _ _ _ _ _ _ => rfl) (fun _ _ _ _ _ _ hr => P_ix (P_var 0) (P_int))) T.m_sorted (A_c (P_listItems T.m_list (P_dget (_root_.T.hu_of hr) (P_fld T.x_Hand (P_var 0)) (P_var 2))) (A_n)) hr)) (G_t (Gs_c (G_n 3 sc_Hand_rows.nd) (Gs_c (G_n 4 sc_Hand_rows.nd) (Gs_n)))) (S_one (S_expr (P_M PySem.F.plainAttrs_list PySem.F.slot_list_append PySem.F.type_list_append mt_append_ (P_var 1) (A_c (P_tup (A_c (P_var 2) (A_c (P_var 3) (A_c (P_var 4) (A_n))))) (A_n)))))))) (S_one (S_ret (P_var 1))))) hw
abbrev Ok_Hand_between (P : Program) (w : World) (K : Fg) (mg : Str → Option Value) (base : Heap) : Prop := OkC P w K mg base 5 ("Hand", some "between") ["self", "low", "high"] ([.str "", .non] : List V) W_Hand_between
theorem dv_Hand_between (T : Txt K mg) (ok_Hand_rows : Ok_Hand_rows P w K mg base) (hw : ∀ ds ω Φ, W_Hand_between ds ω Φ → (b_Hand_between : BS K).w (startD 4 ds) ω ⟨fun _ ω => Φ .non ω, Φ, fun _ _ => False, fun _ _ => False, fun _ _ _ => False⟩) : Ok_Hand_between P w K mg base :=
  fnPC (K := K) (W := W_Hand_between) (k := 4) (n := 4) (N := n_Hand_between) (st := s_Hand_between) T.F_Hand_between (List.cons_ne_nil _ _) (by decide) sc_Hand_between rfl b_Hand_between (fun j hj => match j, hj with | 0, _ => (fun T kV doc pm an cdv ct us its (h1 : us.length = 1) (h2 : its.length = 2) => match us, its, h1, h2 with | [_], [_, _], _, _ => ⟨_, rfl, rfl⟩) | 1, _ => (fun T kV doc pm an cdv ct us its (h1 : us.length = 2) (h2 : its.length = 2) => match us, its, h1, h2 with | [_, _], [_, _], _, _ => ⟨_, rfl, rfl⟩) | 2, _ => (fun T kV doc pm an cdv ct us its (h1 : us.length = 3) (h2 : its.length = 2) => match us, its, h1, h2 with | [_, _, _], [_, _], _, _ => ⟨_, rfl, rfl⟩) | (_ + 3), h => absurd h (by show ¬ (_ + 3 ≤ 2); omega)) len_Hand_between (fun f cdv A outer s H E hr => S_one (S_ret (P_lc (own := [("entry", 3)]) sc_Hand_between.nd (I_seq (P_meth0 (n := true) T.x_Hand (MOk.cons (c := "Hand") (d := "Hand") (j := 0) (mm := true) (by decide) (OkC.toM (OkP.toC ok_Hand_rows)) (hr.mono (by decide)) (by decide) (by decide) (MOk.nil)) takesK0 (P_var 0))) (blkOk_by (N := n_Hand_between) (sc := defScope s_Hand_between) (by decide +kernel)) (fun _ _ _ _ _ => G_n 3 sc_Hand_between.nd) (fun _ _ _ _ _ => Ts_1 (PW.pt (W_and (T_cmp (op_oLe) (P_var 1) (P_ix (P_var 3) (P_int))) (W_and1 (PW.pt (W_or (T_cmp (op_oIs) (P_var 2) (P_non)) (W_or1 (T_cmp (op_oLt) (P_ix (P_var 3) (P_int)) (P_var 2))))))))) (fun _ _ _ _ _ => P_var 3)))) hw
abbrev Ok_InHand_between (P : Program) (w : World) (K : Fg) (mg : Str → Option Value) (base : Heap) : Prop := OkP P w K mg base 6 ("InHand", some "between") ["self", "low", "high"] W_InHand_between
theorem dv_InHand_between (T : Txt K mg)  (ok_Hand_between : Ok_Hand_between P w K mg base) (hw : ∀ ds ω Φ, W_InHand_between ds ω Φ → (b_InHand_between : BS K).w (startD 3 ds) ω ⟨fun _ ω => Φ .non ω, Φ, fun _ _ => False, fun _ _ => False, fun _ _ _ => False⟩) : Ok_InHand_between P w K mg base :=
  fnPD (K := K) (W := W_InHand_between) (k := 5) (n := 3) (N := n_InHand_between) (st := s_InHand_between) T.F_InHand_between sc_InHand_between rfl b_InHand_between (fun _ _ _ _ _ _ us hl => match us, hl with | [_, _, _], _ => rfl) len_InHand_between (fun f cdv A outer s H E hr => S_one (S_ret (P_meth (n := true) T.x_Hand (MOk.cons (c := "Hand") (d := "Hand") (j := 2) (mm := true) (by decide) (OkC.toM ok_Hand_between) (hr.mono (by decide)) (by decide) (by decide) (MOk.nil)) takesK0 (P_fld T.x_InHand (P_var 0)) (A_c (P_var 1) (A_c (P_var 2) (A_n)))))) hw
abbrev Ok_InRun___init__ (P : Program) (w : World) (K : Fg) (mg : Str → Option Value) (base : Heap) : Prop := OkP P w K mg base 1 ("InRun", some "__init__") ["self", "number", "run"] W_InRun___init__
theorem dv_InRun___init__ (T : Txt K mg)   (hw : ∀ ds ω Φ, W_InRun___init__ ds ω Φ → (b_InRun___init__ : BS K).w (startD 3 ds) ω ⟨fun _ ω => Φ .non ω, Φ, fun _ _ => False, fun _ _ => False, fun _ _ _ => False⟩) : Ok_InRun___init__ P w K mg base :=
  fnPD (K := K) (W := W_InRun___init__) (k := 0) (n := 3) (N := n_InRun___init__) (st := s_InRun___init__) T.F_InRun___init__ sc_InRun___init__ rfl b_InRun___init__ (fun _ _ _ _ _ _ us hl => match us, hl with | [_, _, _], _ => rfl) len_InRun___init__ (fun f cdv A outer s H E hr => S_cons (S_fld T.x_InRun (P_var 0) (P_var 1)) (S_one (S_fld T.x_InRun (P_var 0) (P_var 2)))) hw
abbrev Ok_InRun_called (P : Program) (w : World) (K : Fg) (mg : Str → Option Value) (base : Heap) : Prop := OkP P w K mg base 2 ("InRun", some "called") ["self"] W_InRun_called
theorem dv_InRun_called (T : Txt K mg)  (ok_name_of : Ok_name_of P w K mg base) (hw : ∀ ds ω Φ, W_InRun_called ds ω Φ → (b_InRun_called : BS K).w (startD 1 ds) ω ⟨fun _ ω => Φ .non ω, Φ, fun _ _ => False, fun _ _ => False, fun _ _ _ => False⟩) : Ok_InRun_called P w K mg base :=
  fnPD (K := K) (W := W_InRun_called) (k := 1) (n := 1) (N := n_InRun_called) (st := s_InRun_called) T.F_InRun_called sc_InRun_called rfl b_InRun_called (fun _ _ _ _ _ _ us hl => match us, hl with | [_], _ => rfl) len_InRun_called (fun f cdv A outer s H E hr => S_one (S_ret (P_callE ok_name_of (hr.mono (by decide)) T.g_name_of T.k_name_of (A_c (P_fld T.x_InRun (P_var 0)) (A_n))))) hw
abbrev Ok_InRun_says (P : Program) (w : World) (K : Fg) (mg : Str → Option Value) (base : Heap) : Prop := OkP P w K mg base 4 ("InRun", some "says") ["self", "key"] W_InRun_says
theorem dv_InRun_says (T : Txt K mg)  (ok_may_have : Ok_may_have P w K mg base) (hw : ∀ ds ω Φ, W_InRun_says ds ω Φ → (b_InRun_says : BS K).w (startD 2 ds) ω ⟨fun _ ω => Φ .non ω, Φ, fun _ _ => False, fun _ _ => False, fun _ _ _ => False⟩) : Ok_InRun_says P w K mg base :=
  fnPD (K := K) (W := W_InRun_says) (k := 3) (n := 2) (N := n_InRun_says) (st := s_InRun_says) T.F_InRun_says sc_InRun_says rfl b_InRun_says (fun _ _ _ _ _ _ us hl => match us, hl with | [_, _], _ => rfl) len_InRun_says (fun f cdv A outer s H E hr => S_one (S_ret (P_callE ok_may_have (hr.mono (by decide)) T.g_may_have T.k_may_have (A_c (P_ix (P_fld T.x_InRun (P_var 0)) (P_int)) (A_c (P_var 1) (A_n)))))) hw
abbrev Ok_InRun_find (P : Program) (w : World) (K : Fg) (mg : Str → Option Value) (base : Heap) : Prop := OkP P w K mg base 5 ("InRun", some "find") ["self", "key", "stamp"] W_InRun_find
theorem dv_InRun_find (T : Txt K mg)  (ok_find : Ok_find P w K mg base) (hw : ∀ ds ω Φ, W_InRun_find ds ω Φ → (b_InRun_find : BS K).w (startD 3 ds) ω ⟨fun _ ω => Φ .non ω, Φ, fun _ _ => False, fun _ _ => False, fun _ _ _ => False⟩) : Ok_InRun_find P w K mg base :=
  fnPD (K := K) (W := W_InRun_find) (k := 4) (n := 3) (N := n_InRun_find) (st := s_InRun_find) T.F_InRun_find sc_InRun_find rfl b_InRun_find (fun _ _ _ _ _ _ us hl => match us, hl with | [_, _, _], _ => rfl) len_InRun_find (fun f cdv A outer s H E hr => S_one (S_ret (P_callA ok_find (hr.mono (by decide)) T.g_find_runs T.a_find_runs T.k_find (A_c (P_fld T.x_InRun (P_var 0)) (A_c (P_var 1) (A_c (P_var 2) (A_n))))))) hw
abbrev Ok_InRun_between (P : Program) (w : World) (K : Fg) (mg : Str → Option Value) (base : Heap) : Prop := OkP P w K mg base 4 ("InRun", some "between") ["self", "low", "high"] W_InRun_between
theorem dv_InRun_between (T : Txt K mg)  (ok_between : Ok_between P w K mg base) (hw : ∀ ds ω Φ, W_InRun_between ds ω Φ → (b_InRun_between : BS K).w (startD 3 ds) ω ⟨fun _ ω => Φ .non ω, Φ, fun _ _ => False, fun _ _ => False, fun _ _ _ => False⟩) : Ok_InRun_between P w K mg base :=
  fnPD (K := K) (W := W_InRun_between) (k := 3) (n := 3) (N := n_InRun_between) (st := s_InRun_between) T.F_InRun_between sc_InRun_between rfl b_InRun_between (fun _ _ _ _ _ _ us hl => match us, hl with | [_, _, _], _ => rfl) len_InRun_between (fun f cdv A outer s H E hr => S_one (S_ret (P_callA ok_between (hr.mono (by decide)) T.g_between_runs T.a_between_runs T.k_between (A_c (P_fld T.x_InRun (P_var 0)) (A_c (P_var 1) (A_c (P_var 2) (A_n))))))) hw
abbrev Ok_Hand___init__ (P : Program) (w : World) (K : Fg) (mg : Str → Option Value) (base : Heap) : Prop := OkP P w K mg base 1 ("Hand", some "__init__") ["self"] W_Hand___init__
theorem dv_Hand___init__ (T : Txt K mg)   (hw : ∀ ds ω Φ, W_Hand___init__ ds ω Φ → (b_Hand___init__ : BS K).w (startD 1 ds) ω ⟨fun _ ω => Φ .non ω, Φ, fun _ _ => False, fun _ _ => False, fun _ _ _ => False⟩) : Ok_Hand___init__ P w K mg base :=
  fnPD (K := K) (W := W_Hand___init__) (k := 0) (n := 1) (N := n_Hand___init__) (st := s_Hand___init__) T.F_Hand___init__ sc_Hand___init__ rfl b_Hand___init__ (fun _ _ _ _ _ _ us hl => match us, hl with | [_], _ => rfl) len_Hand___init__ (fun f cdv A outer s H E hr => S_one (S_fld T.x_Hand (P_var 0) (P_dk))) hw
abbrev Ok_Hand_put (P : Program) (w : World) (K : Fg) (mg : Str → Option Value) (base : Heap) : Prop := OkP P w K mg base 1 ("Hand", some "put") ["self", "key", "stamp", "value"] W_Hand_put
theorem dv_Hand_put (T : Txt K mg)   (hw : ∀ ds ω Φ, W_Hand_put ds ω Φ → (b_Hand_put : BS K).w (startD 4 ds) ω ⟨fun _ ω => Φ .non ω, Φ, fun _ _ => False, fun _ _ => False, fun _ _ _ => False⟩) : Ok_Hand_put P w K mg base :=
  fnPD (K := K) (W := W_Hand_put) (k := 0) (n := 4) (N := n_Hand_put) (st := s_Hand_put) T.F_Hand_put sc_Hand_put rfl b_Hand_put (fun _ _ _ _ _ _ us hl => match us, hl with | [_, _, _, _], _ => rfl) len_Hand_put (fun f cdv A outer s H E hr => S_one (S_dput (_root_.T.hu_of hr) (P_dsetd (P_fld T.x_Hand (P_var 0)) (P_var 1) (P_dk)) (P_var 2) (P_var 3))) hw
abbrev Ok_Hand_greatest (P : Program) (w : World) (K : Fg) (mg : Str → Option Value) (base : Heap) : Prop := OkP P w K mg base 1 ("Hand", some "greatest") ["self"] W_Hand_greatest
theorem dv_Hand_greatest (T : Txt K mg)   (hw : ∀ ds ω Φ, W_Hand_greatest ds ω Φ → (b_Hand_greatest : BS K).w (startD 2 ds) ω ⟨fun _ ω => Φ .non ω, Φ, fun _ _ => False, fun _ _ => False, fun _ _ _ => False⟩) : Ok_Hand_greatest P w K mg base :=
  fnPD (K := K) (W := W_Hand_greatest) (k := 0) (n := 2) (N := n_Hand_greatest) (st := s_Hand_greatest) T.F_Hand_greatest sc_Hand_greatest rfl b_Hand_greatest (fun _ _ _ _ _ _ us hl => match us, hl with | [_], _ => rfl) len_Hand_greatest (fun f cdv A outer s H E hr => S_one (S_ret (P_BK (call_cMaxD) T.m_max (by decide +kernel) (A_c (P_lock (P_lc (own := [("told", 1)]) sc_Hand_greatest.nd (I_vals (P_fld T.x_Hand (P_var 0))) (blkOk_by (N := n_Hand_greatest) (sc := defScope s_Hand_greatest) (by decide +kernel)) (fun _ _ _ _ _ => G_n 1 sc_Hand_greatest.nd) (fun _ _ _ _ _ => Ts_n) (fun _ _ _ _ _ => P_B (call_cMaxL) T.m_max (by decide +kernel) (A_c (P_Ty call_cListK T.m_list (by decide +kernel) (A_c (P_var 1) (A_n))) (A_n))))) (A_n)) (K_c (P_int) K_n)))) hw
abbrev Ok__law_cell_at (P : Program) (w : World) (K : Fg) (mg : Str → Option Value) (base : Heap) : Prop := OkP P w K mg base 1 ("_law_cell_at", none) ["_law_script", "_law_k"] W__law_cell_at
theorem dv__law_cell_at (T : Txt K mg)   (hw : ∀ ds ω Φ, W__law_cell_at ds ω Φ → (b__law_cell_at : BS K).w (startD 2 ds) ω ⟨fun _ ω => Φ .non ω, Φ, fun _ _ => False, fun _ _ => False, fun _ _ _ => False⟩) : Ok__law_cell_at P w K mg base :=
  fnPD (K := K) (W := W__law_cell_at) (k := 0) (n := 2) (N := n__law_cell_at) (st := s__law_cell_at) T.F__law_cell_at sc__law_cell_at rfl b__law_cell_at (fun _ _ _ _ _ _ us hl => match us, hl with | [_, _], _ => rfl) len__law_cell_at (fun f cdv A outer s H E hr => S_cons (S_if (T_cmp (op_oLt) (P_var 1) (P_B (call_cLen) T.m_len (by decide +kernel) (A_c (P_var 0) (A_n)))) (S_one (S_ret (P_ix (P_var 0) (P_var 1)))) (S_nil)) (S_one (S_ret (P_int)))) hw
abbrev Ok__law_whole (P : Program) (w : World) (K : Fg) (mg : Str → Option Value) (base : Heap) : Prop := OkP P w K mg base 1 ("_law_whole", none) ["_law_found"] W__law_whole
theorem dv__law_whole (T : Txt K mg)   (hw : ∀ ds ω Φ, W__law_whole ds ω Φ → (b__law_whole : BS K).w (startD 1 ds) ω ⟨fun _ ω => Φ .non ω, Φ, fun _ _ => False, fun _ _ => False, fun _ _ _ => False⟩) : Ok__law_whole P w K mg base :=
  fnPD (K := K) (W := W__law_whole) (k := 0) (n := 1) (N := n__law_whole) (st := s__law_whole) T.F__law_whole sc__law_whole rfl b__law_whole (fun _ _ _ _ _ _ us hl => match us, hl with | [_], _ => rfl) len__law_whole (fun f cdv A outer s H E hr => S_one (S_ret (P_and (P_isi T.m_isinstance T.m_int (by decide +kernel) (P_var 0)) (P_one (P_not (P_isi T.m_isinstance T.m_bool (by decide +kernel) (P_var 0))))))) hw
abbrev Ok__law_stream (P : Program) (w : World) (K : Fg) (mg : Str → Option Value) (base : Heap) : Prop := OkP P w K mg base 1 ("_law_stream", none) ["_law_cell", "_law_many_here"] W__law_stream
theorem dv__law_stream (T : Txt K mg)   (hw : ∀ ds ω Φ, W__law_stream ds ω Φ → (b__law_stream : BS K).w (startD 5 ds) ω ⟨fun _ ω => Φ .non ω, Φ, fun _ _ => False, fun _ _ => False, fun _ _ _ => False⟩) : Ok__law_stream P w K mg base :=
  fnPD (K := K) (W := W__law_stream) (k := 0) (n := 5) (N := n__law_stream) (st := s__law_stream) T.F__law_stream sc__law_stream rfl b__law_stream (fun _ _ _ _ _ _ us hl => match us, hl with | [_, _], _ => rfl) len__law_stream (fun f cdv A outer s H E hr => S_cons (S_set (i := 2) sc__law_stream.nd (P_lst (A_n))) (S_cons (S_set (i := 3) sc__law_stream.nd (P_op op_oMod (P_var 0) (P_int))) (S_cons (S_for PassesOwn.never (I_r1 T.m_range (A_c (P_var 1) (A_n))) (G_n 4 sc__law_stream.nd) (S_cons (S_set (i := 3) sc__law_stream.nd (P_op op_oMod (P_op op_oAdd (P_op op_oAdd (P_op op_oMul (P_var 3) (P_int)) (P_int)) (P_var 4)) (P_int))) (S_one (S_expr (P_M PySem.F.plainAttrs_list PySem.F.slot_list_append PySem.F.type_list_append mt_append_ (P_var 2) (A_c (P_var 3) (A_n))))))) (S_one (S_ret (P_var 2)))))) hw
abbrev Ok__law_sign (P : Program) (w : World) (K : Fg) (mg : Str → Option Value) (base : Heap) : Prop := OkP P w K mg base 1 ("_law_sign", none) ["_law_x"] W__law_sign
theorem dv__law_sign (T : Txt K mg)   (hw : ∀ ds ω Φ, W__law_sign ds ω Φ → (b__law_sign : BS K).w (startD 2 ds) ω ⟨fun _ ω => Φ .non ω, Φ, fun _ _ => False, fun _ _ => False, fun _ _ _ => False⟩) : Ok__law_sign P w K mg base :=
  fnPD (K := K) (W := W__law_sign) (k := 0) (n := 2) (N := n__law_sign) (st := s__law_sign) T.F__law_sign sc__law_sign rfl b__law_sign (fun _ _ _ _ _ _ us hl => match us, hl with | [_], _ => rfl) len__law_sign (fun f cdv A outer s H E hr => S_cons (S_set (i := 1) sc__law_sign.nd (P_lit)) (S_cons (S_set (i := 1) sc__law_sign.nd (P_op op_oAdd (P_var 1) (P_lit))) (S_one (S_ret (P_ix (P_var 1) (P_op op_oMod (P_var 0) (P_int))))))) hw
abbrev Ok__law_text (P : Program) (w : World) (K : Fg) (mg : Str → Option Value) (base : Heap) : Prop := OkP P w K mg base 2 ("_law_text", none) ["_law_x", "_law_most"] W__law_text
theorem dv__law_text (T : Txt K mg)  (ok__law_sign : Ok__law_sign P w K mg base) (ok__law_stream : Ok__law_stream P w K mg base) (hw : ∀ ds ω Φ, W__law_text ds ω Φ → (b__law_text : BS K).w (startD 4 ds) ω ⟨fun _ ω => Φ .non ω, Φ, fun _ _ => False, fun _ _ => False, fun _ _ _ => False⟩) : Ok__law_text P w K mg base :=
  fnPD (K := K) (W := W__law_text) (k := 1) (n := 4) (N := n__law_text) (st := s__law_text) T.F__law_text sc__law_text rfl b__law_text (fun _ _ _ _ _ _ us hl => match us, hl with | [_, _], _ => rfl) len__law_text (fun f cdv A outer s H E hr => S_cons (S_set (i := 2) sc__law_text.nd (P_op op_oMod (P_var 0) (P_int))) (S_cons (S_if (T_cmp (op_oEq (hq_of hr)) (P_op op_oMod (P_op op_oDiv (P_var 0) (P_int)) (P_int)) (P_int)) (S_one (S_set (i := 2) sc__law_text.nd (P_op op_oMod (P_op op_oDiv (P_var 0) (P_int)) (P_op op_oAdd (P_var 1) (P_int))))) (S_nil)) (S_one (S_ret (P_M PySem.F.plainAttrs_str PySem.F.slot_str_join PySem.F.type_str_join mt_join_ (P_lit) (A_c (P_lc (own := [("_law_y", 3)]) sc__law_text.nd (I_seq (P_frz (P_callE ok__law_stream (hr.mono (by decide)) T.g__law_stream T.k__law_stream (A_c (P_op op_oDiv (P_var 0) (P_int)) (A_c (P_B (call_min2 rfl) T.m_min (by decide +kernel) (A_c (P_var 2) (A_c (P_var 1) (A_n)))) (A_n)))))) (blkOk_by (N := n__law_text) (sc := defScope s__law_text) (by decide +kernel)) (fun _ _ _ _ _ => G_n 3 sc__law_text.nd) (fun _ _ _ _ _ => Ts_n) (fun _ _ _ _ _ => P_callE ok__law_sign (hr.mono (by decide)) T.g__law_sign T.k__law_sign (A_c (P_op op_oDiv (P_var 3) (P_int)) (A_n)))) (A_n))))))) hw
abbrev Ok__law_keys (P : Program) (w : World) (K : Fg) (mg : Str → Option Value) (base : Heap) : Prop := OkP P w K mg base 3 ("_law_keys", none) ["_law_cell", "_law_many_here"] W__law_keys
theorem dv__law_keys (T : Txt K mg)  (ok__law_sign : Ok__law_sign P w K mg base) (ok__law_stream : Ok__law_stream P w K mg base) (ok__law_text : Ok__law_text P w K mg base) (hw : ∀ ds ω Φ, W__law_keys ds ω Φ → (b__law_keys : BS K).w (startD 7 ds) ω ⟨fun _ ω => Φ .non ω, Φ, fun _ _ => False, fun _ _ => False, fun _ _ _ => False⟩) : Ok__law_keys P w K mg base :=
  fnPD (K := K) (W := W__law_keys) (k := 2) (n := 7) (N := n__law_keys) (st := s__law_keys) T.F__law_keys sc__law_keys rfl b__law_keys (fun _ _ _ _ _ _ us hl => match us, hl with | [_, _], _ => rfl) len__law_keys (fun f cdv A outer s H E hr => S_cons (S_set (i := 2) sc__law_keys.nd (P_lst (A_c (P_op op_oAdd (P_callE ok__law_sign (hr.mono (by decide)) T.g__law_sign T.k__law_sign (A_c (P_var 0) (A_n))) (P_callE ok__law_text (hr.mono (by decide)) T.g__law_text T.k__law_text (A_c (P_op op_oDiv (P_var 0) (P_int)) (A_c (P_int) (A_n))))) (A_n)))) (S_cons (S_for PassesOwn.never (I_seq (P_frz (P_callE ok__law_stream (hr.mono (by decide)) T.g__law_stream T.k__law_stream (A_c (P_var 0) (A_c (P_var 1) (A_n)))))) (G_n 3 sc__law_keys.nd) (S_cons (S_set (i := 4) sc__law_keys.nd (P_ix (P_var 2) (P_op op_oMod (P_op op_oDiv (P_var 3) (P_int)) (P_B (call_cLen) T.m_len (by decide +kernel) (A_c (P_var 2) (A_n)))))) (S_cons (S_set (i := 5) sc__law_keys.nd (P_op op_oMod (P_op op_oDiv (P_var 3) (P_int)) (P_B (call_cLen) T.m_len (by decide +kernel) (A_c (P_var 4) (A_n))))) (S_cons (S_set (i := 6) sc__law_keys.nd (P_op op_oAdd (P_op op_oAdd (P_sl (P_var 4) (O_n) (O_s (P_var 5))) (P_callE ok__law_sign (hr.mono (by decide)) T.g__law_sign T.k__law_sign (A_c (P_op op_oDiv (P_var 3) (P_int)) (A_n)))) (P_sl (P_var 4) (O_s (P_op op_oAdd (P_var 5) (P_int))) (O_n)))) (S_cons (S_if (PW.pt (W_and (T_cmp (op_oEq (hq_of hr)) (P_op op_oMod (P_var 3) (P_int)) (P_int)) (W_and1 (T_cmp (op_oLt) (P_B (call_cLen) T.m_len (by decide +kernel) (A_c (P_var 4) (A_n))) (P_int))))) (S_one (S_set (i := 6) sc__law_keys.nd (P_op op_oAdd (P_var 4) (P_callE ok__law_sign (hr.mono (by decide)) T.g__law_sign T.k__law_sign (A_c (P_op op_oDiv (P_var 3) (P_int)) (A_n)))))) (S_nil)) (S_cons (S_if (PW.pt (W_and (T_cmp (op_oEq (hq_of hr)) (P_op op_oMod (P_var 3) (P_int)) (P_int)) (W_and1 (T_cmp (op_oGt) (P_B (call_cLen) T.m_len (by decide +kernel) (A_c (P_var 4) (A_n))) (P_int))))) (S_one (S_set (i := 6) sc__law_keys.nd (P_sl (P_var 4) (O_n) (O_s (P_neg (P_int)))))) (S_nil)) (S_cons (S_if (T_cmp (op_oEq (hq_of hr)) (P_op op_oMod (P_var 3) (P_int)) (P_int)) (S_one (S_set (i := 6) sc__law_keys.nd (P_op op_oAdd (P_callE ok__law_sign (hr.mono (by decide)) T.g__law_sign T.k__law_sign (A_c (P_op op_oDiv (P_var 3) (P_int)) (A_n))) (P_callE ok__law_text (hr.mono (by decide)) T.g__law_text T.k__law_text (A_c (P_op op_oDiv (P_var 3) (P_int)) (A_c (P_int) (A_n))))))) (S_nil)) (S_one (S_if (T_cmp (op_oNotIn) (P_var 6) (P_var 2)) (S_one (S_expr (P_M PySem.F.plainAttrs_list PySem.F.slot_list_append PySem.F.type_list_append mt_append_ (P_var 2) (A_c (P_var 6) (A_n))))) (S_nil)))))))))) (S_one (S_ret (P_var 2))))) hw
abbrev Ok__law_value (P : Program) (w : World) (K : Fg) (mg : Str → Option Value) (base : Heap) : Prop := OkP P w K mg base 3 ("_law_value", none) ["_law_x"] W__law_value
theorem dv__law_value (T : Txt K mg)  (ok__law_text : Ok__law_text P w K mg base) (hw : ∀ ds ω Φ, W__law_value ds ω Φ → (b__law_value : BS K).w (startD 1 ds) ω ⟨fun _ ω => Φ .non ω, Φ, fun _ _ => False, fun _ _ => False, fun _ _ _ => False⟩) : Ok__law_value P w K mg base :=
  fnPD (K := K) (W := W__law_value) (k := 2) (n := 1) (N := n__law_value) (st := s__law_value) T.F__law_value sc__law_value rfl b__law_value (fun _ _ _ _ _ _ us hl => match us, hl with | [_], _ => rfl) len__law_value (fun f cdv A outer s H E hr => S_cons (S_if (T_cmp (op_oEq (hq_of hr)) (P_op op_oMod (P_var 0) (P_int)) (P_int)) (S_one (S_ret (P_non))) (S_nil)) (S_one (S_ret (P_callE ok__law_text (hr.mono (by decide)) T.g__law_text T.k__law_text (A_c (P_op op_oDiv (P_var 0) (P_int)) (A_c (P_int) (A_n))))))) hw
abbrev Ok__law_entries (P : Program) (w : World) (K : Fg) (mg : Str → Option Value) (base : Heap) : Prop := OkP P w K mg base 4 ("_law_entries", none) ["_law_cell", "_law_many_here"] W__law_entries
theorem dv__law_entries (T : Txt K mg)  (ok__law_keys : Ok__law_keys P w K mg base) (ok__law_stream : Ok__law_stream P w K mg base) (ok__law_value : Ok__law_value P w K mg base) (hw : ∀ ds ω Φ, W__law_entries ds ω Φ → (b__law_entries : BS K).w (startD 9 ds) ω ⟨fun _ ω => Φ .non ω, Φ, fun _ _ => False, fun _ _ => False, fun _ _ _ => False⟩) : Ok__law_entries P w K mg base :=
  fnPD (K := K) (W := W__law_entries) (k := 3) (n := 9) (N := n__law_entries) (st := s__law_entries) T.F__law_entries sc__law_entries rfl b__law_entries (fun _ _ _ _ _ _ us hl => match us, hl with | [_, _], _ => rfl) len__law_entries (fun f cdv A outer s H E hr => S_cons (S_set (i := 2) sc__law_entries.nd (P_callE ok__law_keys (hr.mono (by decide)) T.g__law_keys T.k__law_keys (A_c (P_op op_oDiv (P_var 0) (P_int)) (A_c (P_ix (P_lst (A_c (P_int) (A_c (P_int) (A_c (P_int) (A_c (P_int) (A_n)))))) (P_op op_oMod (P_var 0) (P_int))) (A_n))))) (S_cons (S_set (i := 3) sc__law_entries.nd (P_ix (P_lst (A_c (P_int) (A_c (P_op op_oSub (P_op op_oSub (P_op op_oPow (P_int) (P_int)) (P_int)) (P_op op_oMul (P_int) (P_var 1))) (A_n)))) (P_op op_oMod (P_op op_oDiv (P_var 0) (P_int)) (P_int)))) (S_cons (S_set (i := 4) sc__law_entries.nd (P_dt)) (S_cons (S_for PassesOwn.never (I_zip T.m_zip (A_c (P_frz (P_callE ok__law_stream (hr.mono (by decide)) T.g__law_stream T.k__law_stream (A_c (P_var 0) (A_c (P_var 1) (A_n))))) (A_c (P_frz (P_callE ok__law_stream (hr.mono (by decide)) T.g__law_stream T.k__law_stream (A_c (P_op op_oAdd (P_op op_oDiv (P_var 0) (P_int)) (P_int)) (A_c (P_var 1) (A_n))))) (A_n)))) (G_t (Gs_c (G_n 5 sc__law_entries.nd) (Gs_c (G_n 6 sc__law_entries.nd) (Gs_n)))) (S_one (S_dputA (_root_.T.hu_of hr) (P_var 4) (A_c (P_ix (P_var 2) (P_op op_oMod (P_op op_oDiv (P_var 5) (P_int)) (P_B (call_cLen) T.m_len (by decide +kernel) (A_c (P_var 2) (A_n))))) (A_c (P_op op_oAdd (P_op op_oAdd (P_var 3) (P_int)) (P_op op_oMod (P_op op_oDiv (P_var 5) (P_int)) (P_op op_oMul (P_int) (P_var 1)))) (A_n))) (P_callE ok__law_value (hr.mono (by decide)) T.g__law_value T.k__law_value (A_c (P_var 6) (A_n)))))) (S_one (S_ret (P_lc (own := [("_law_word", 7), ("_law_stamp", 8)]) sc__law_entries.nd (I_keys (P_var 4)) (blkOk_by (N := n__law_entries) (sc := defScope s__law_entries) (by decide +kernel)) (fun _ _ _ _ _ => G_t (Gs_c (G_n 7 sc__law_entries.nd) (Gs_c (G_n 8 sc__law_entries.nd) (Gs_n)))) (fun _ _ _ _ _ => Ts_n) (fun _ _ _ _ _ => P_tup (A_c (P_var 7) (A_c (P_var 8) (A_c (P_dget (_root_.T.hu_of hr) (P_var 4) (P_tup (A_c (P_var 7) (A_c (P_var 8) (A_n))))) (A_n)))))))))))) hw
abbrev Ok__law_ordered (P : Program) (w : World) (K : Fg) (mg : Str → Option Value) (base : Heap) : Prop := OkP P w K mg base 4 ("_law_ordered", none) ["_law_entries_here"] W__law_ordered
theorem dv__law_ordered (T : Txt K mg) (TK : TabK K tf) (TB : TabsB base mg K tf)  (hw : ∀ ds ω Φ, W__law_ordered ds ω Φ → (b__law_ordered : BS K).w (startD 1 ds) ω ⟨fun _ ω => Φ .non ω, Φ, fun _ _ => False, fun _ _ => False, fun _ _ _ => False⟩) : Ok__law_ordered P w K mg base :=
  fnPL (K := K) (W := W__law_ordered) (k := 3) (n := 1) (N := n__law_ordered) (st := s__law_ordered) TK TB (p := ("_law_ordered", none)) (by decide +kernel) T.F__law_ordered sc__law_ordered rfl b__law_ordered (fun _ _ _ _ _ _ us hl => match us, hl with | [_], _ => rfl) len__law_ordered (fun f cdv A outer s H E hr lc => S_one (S_ret (P_sortK (PKey.lam (k := 0) (N := ["_law_entry"]) (fr := []) (p := "_law_entry") (js := []) (n := 1) (bTup (baC (bOp oIx (bVar 0) (bInt 0)) (baC (bNeg (bOp oIx (bVar 0) (bInt 1))) (baN)))) lc (hr.mono (by decide)) rfl (NdefX.nscope_by (by decide +kernel)) rfl (show NdefX.ndefB (defScope s__law_ordered) _ _ = true from by decide +kernel) rfl (by decide) (fun _ _ _ _ _ _ _ => rfl) (fun _ _ _ _ _ _ hr => P_tup (A_c (P_ix (P_var 0) (P_int)) (A_c (P_neg (P_ix (P_var 0) (P_int))) (A_n))))) T.m_sorted (A_c (P_var 0) (A_n)) hr))) hw
abbrev Ok__law_stamps (P : Program) (w : World) (K : Fg) (mg : Str → Option Value) (base : Heap) : Prop := OkP P w K mg base 2 ("_law_stamps", none) ["_law_entries_here", "_law_cell"] W__law_stamps
theorem dv__law_stamps (T : Txt K mg)  (ok__law_stream : Ok__law_stream P w K mg base) (hw : ∀ ds ω Φ, W__law_stamps ds ω Φ → (b__law_stamps : BS K).w (startD 7 ds) ω ⟨fun _ ω => Φ .non ω, Φ, fun _ _ => False, fun _ _ => False, fun _ _ _ => False⟩) : Ok__law_stamps P w K mg base :=
  fnPD (K := K) (W := W__law_stamps) (k := 1) (n := 7) (N := n__law_stamps) (st := s__law_stamps) T.F__law_stamps sc__law_stamps rfl b__law_stamps (fun _ _ _ _ _ _ us hl => match us, hl with | [_, _], _ => rfl) len__law_stamps (fun f cdv A outer s H E hr => S_cons (S_set (i := 2) sc__law_stamps.nd (P_op op_oAdd (P_int) (P_op op_oMod (P_var 1) (P_int)))) (S_cons (S_if (T_cmp (op_oEq (hq_of hr)) (P_op op_oMod (P_op op_oDiv (P_var 1) (P_int)) (P_int)) (P_int)) (S_one (S_set (i := 2) sc__law_stamps.nd (P_op op_oAdd (P_int) (P_op op_oMod (P_op op_oDiv (P_var 1) (P_int)) (P_int))))) (S_nil)) (S_cons (S_set (i := 3) sc__law_stamps.nd (P_frz (P_callE ok__law_stream (hr.mono (by decide)) T.g__law_stream T.k__law_stream (A_c (P_var 1) (A_c (P_var 2) (A_n)))))) (S_cons (S_if (PW.pt (W_or (T_cmp (op_oEqE (hq_of hr)) (P_var 0) (P_lst (A_n))) (W_or1 (T_cmp (op_oEq (hq_of hr)) (P_op op_oMod (P_op op_oDiv (P_var 1) (P_int)) (P_int)) (P_int))))) (S_one (S_ret (P_lst (A_n)))) (S_nil)) (S_cons (S_setLc (own := [("_law_x", 5)]) sc__law_stamps.nd (I_seq (P_var 3)) (blkOk_by (N := n__law_stamps) (sc := defScope s__law_stamps) (by decide +kernel)) (fun _ _ _ _ _ => G_n 5 sc__law_stamps.nd) (fun _ _ _ _ _ => Ts_n) (fun _ _ _ _ _ => P_op op_oSub (P_op op_oAdd (P_ix (P_ix (P_var 0) (P_op op_oMod (P_op op_oDiv (P_var 5) (P_int)) (P_B (call_cLen) T.m_len (by decide +kernel) (A_c (P_var 0) (A_n))))) (P_int)) (P_op op_oMod (P_op op_oDiv (P_var 5) (P_int)) (P_int))) (P_int))) (S_one (S_ret (P_sortSetI T.m_sorted T.m_set (P_lc (own := [("_law_stamp", 6)]) sc__law_stamps.nd (I_seq (P_var 4)) (blkOk_by (N := n__law_stamps) (sc := defScope s__law_stamps) (by decide +kernel)) (fun _ _ _ _ _ => G_n 6 sc__law_stamps.nd) (fun _ _ _ _ _ => Ts_n) (fun _ _ _ _ _ => P_B (call_min2 rfl) T.m_min (by decide +kernel) (A_c (P_B (call_max2 rfl) T.m_max (by decide +kernel) (A_c (P_int) (A_c (P_var 6) (A_n)))) (A_c (P_op op_oSub (P_op op_oPow (P_int) (P_int)) (P_int)) (A_n))))))))))))) hw
abbrev Ok__law_all_entries (P : Program) (w : World) (K : Fg) (mg : Str → Option Value) (base : Heap) : Prop := OkP P w K mg base 2 ("_law_all_entries", none) ["_law_found"] W__law_all_entries
theorem dv__law_all_entries (T : Txt K mg)  (ok__law_whole : Ok__law_whole P w K mg base) (hw : ∀ ds ω Φ, W__law_all_entries ds ω Φ → (b__law_all_entries : BS K).w (startD 2 ds) ω ⟨fun _ ω => Φ .non ω, Φ, fun _ _ => False, fun _ _ => False, fun _ _ _ => False⟩) : Ok__law_all_entries P w K mg base :=
  fnPD (K := K) (W := W__law_all_entries) (k := 1) (n := 2) (N := n__law_all_entries) (st := s__law_all_entries) T.F__law_all_entries sc__law_all_entries rfl b__law_all_entries (fun _ _ _ _ _ _ us hl => match us, hl with | [_], _ => rfl) len__law_all_entries (fun f cdv A outer s H E hr => S_cons (S_if (T_not (T_tru (P_isi T.m_isinstance T.m_list (by decide +kernel) (P_var 0)))) (S_one (S_ret (P_bl))) (S_nil)) (S_cons (S_for PassesOwn.never (I_seq (P_var 0)) (G_n 1 sc__law_all_entries.nd) (S_cons (S_if (PW.pt (W_or (T_not (T_tru (P_isi T.m_isinstance T.m_tuple (by decide +kernel) (P_var 1)))) (W_or (T_cmp (op_oNe (hq_of hr)) (P_B (call_cLen) T.m_len (by decide +kernel) (A_c (P_var 1) (A_n))) (P_int)) (W_or1 (T_not (T_tru (P_isi T.m_isinstance T.m_str (by decide +kernel) (P_ix (P_var 1) (P_int))))))))) (S_one (S_ret (P_bl))) (S_nil)) (S_one (S_if (PW.pt (W_or (T_not (T_tru (P_callE ok__law_whole (hr.mono (by decide)) T.g__law_whole T.k__law_whole (A_c (P_ix (P_var 1) (P_int)) (A_n))))) (W_or1 (PW.pt (W_and (T_cmp (op_oIsNot) (P_ix (P_var 1) (P_int)) (P_non)) (W_and1 (T_not (T_tru (P_isi T.m_isinstance T.m_str (by decide +kernel) (P_ix (P_var 1) (P_int))))))))))) (S_one (S_ret (P_bl))) (S_nil))))) (S_one (S_ret (P_bl))))) hw
abbrev Ok__law_many (P : Program) (w : World) (K : Fg) (mg : Str → Option Value) (base : Heap) : Prop := OkP P w K mg base 1 ("_law_many", none) ["_law_cell"] W__law_many
theorem dv__law_many (T : Txt K mg)   (hw : ∀ ds ω Φ, W__law_many ds ω Φ → (b__law_many : BS K).w (startD 2 ds) ω ⟨fun _ ω => Φ .non ω, Φ, fun _ _ => False, fun _ _ => False, fun _ _ _ => False⟩) : Ok__law_many P w K mg base :=
  fnPD (K := K) (W := W__law_many) (k := 0) (n := 2) (N := n__law_many) (st := s__law_many) T.F__law_many sc__law_many rfl b__law_many (fun _ _ _ _ _ _ us hl => match us, hl with | [_], _ => rfl) len__law_many (fun f cdv A outer s H E hr => S_cons (S_set (i := 1) sc__law_many.nd (P_op op_oMod (P_var 0) (P_int))) (S_cons (S_if (T_cmp (op_oEq (hq_of hr)) (P_op op_oMod (P_op op_oDiv (P_var 0) (P_int)) (P_int)) (P_int)) (S_one (S_set (i := 1) sc__law_many.nd (P_op op_oAdd (P_int) (P_op op_oMod (P_op op_oDiv (P_var 0) (P_int)) (P_int))))) (S_nil)) (S_one (S_ret (P_var 1))))) hw
abbrev Ok__law_first (P : Program) (w : World) (K : Fg) (mg : Str → Option Value) (base : Heap) : Prop := OkP P w K mg base 1 ("_law_first", none) ["_law_entries_here", "_law_word", "_law_stamp"] W__law_first
theorem dv__law_first (T : Txt K mg)   (hw : ∀ ds ω Φ, W__law_first ds ω Φ → (b__law_first : BS K).w (startD 4 ds) ω ⟨fun _ ω => Φ .non ω, Φ, fun _ _ => False, fun _ _ => False, fun _ _ _ => False⟩) : Ok__law_first P w K mg base :=
  fnPD (K := K) (W := W__law_first) (k := 0) (n := 4) (N := n__law_first) (st := s__law_first) T.F__law_first sc__law_first rfl b__law_first (fun _ _ _ _ _ _ us hl => match us, hl with | [_, _, _], _ => rfl) len__law_first (fun f cdv A outer s H E hr => S_cons (S_for PassesOwn.never (I_seq (P_var 0)) (G_n 3 sc__law_first.nd) (S_one (S_if (PW.pt (W_and (T_cmp (op_oEq (hq_of hr)) (P_ix (P_var 3) (P_int)) (P_var 1)) (W_and1 (T_cmp (op_oLe) (P_ix (P_var 3) (P_int)) (P_var 2))))) (S_one (S_ret (P_var 3))) (S_nil)))) (S_one (S_ret (P_non)))) hw
abbrev Ok__law_between (P : Program) (w : World) (K : Fg) (mg : Str → Option Value) (base : Heap) : Prop := OkP P w K mg base 1 ("_law_between", none) ["_law_row", "_law_low", "_law_high"] W__law_between
theorem dv__law_between (T : Txt K mg)   (hw : ∀ ds ω Φ, W__law_between ds ω Φ → (b__law_between : BS K).w (startD 4 ds) ω ⟨fun _ ω => Φ .non ω, Φ, fun _ _ => False, fun _ _ => False, fun _ _ _ => False⟩) : Ok__law_between P w K mg base :=
  fnPD (K := K) (W := W__law_between) (k := 0) (n := 4) (N := n__law_between) (st := s__law_between) T.F__law_between sc__law_between rfl b__law_between (fun _ _ _ _ _ _ us hl => match us, hl with | [_, _, _], _ => rfl) len__law_between (fun f cdv A outer s H E hr => S_one (S_ret (P_lc (own := [("_law_entry", 3)]) sc__law_between.nd (I_seq (P_var 0)) (blkOk_by (N := n__law_between) (sc := defScope s__law_between) (by decide +kernel)) (fun _ _ _ _ _ => G_n 3 sc__law_between.nd) (fun _ _ _ _ _ => Ts_1 (PW.pt (W_and (T_cmp (op_oLe) (P_var 1) (P_ix (P_var 3) (P_int))) (W_and1 (PW.pt (W_or (T_cmp (op_oIs) (P_var 2) (P_non)) (W_or1 (T_cmp (op_oLt) (P_ix (P_var 3) (P_int)) (P_var 2))))))))) (fun _ _ _ _ _ => P_var 3)))) hw
abbrev Ok__law_told (P : Program) (w : World) (K : Fg) (mg : Str → Option Value) (base : Heap) : Prop := OkP P w K mg base 7 ("_law_told", none) ["_law_part", "_law_row", "_law_words", "_law_stamps_here", "_law_bounds"] W__law_told
theorem dv__law_told (T : Txt K mg)  (ok_InHand_between : Ok_InHand_between P w K mg base) (ok_InHand_called : Ok_InHand_called P w K mg base) (ok_InHand_find : Ok_InHand_find P w K mg base) (ok_InHand_says : Ok_InHand_says P w K mg base) (ok_InRun_between : Ok_InRun_between P w K mg base) (ok_InRun_called : Ok_InRun_called P w K mg base) (ok_InRun_find : Ok_InRun_find P w K mg base) (ok_InRun_says : Ok_InRun_says P w K mg base) (ok_Part_between : Ok_Part_between P w K mg base) (ok_Part_called : Ok_Part_called P w K mg base) (ok_Part_find : Ok_Part_find P w K mg base) (ok_Part_says : Ok_Part_says P w K mg base) (ok__law_all_entries : Ok__law_all_entries P w K mg base) (ok__law_between : Ok__law_between P w K mg base) (ok__law_first : Ok__law_first P w K mg base) (hw : ∀ ds ω Φ, W__law_told ds ω Φ → (b__law_told : BS K).w (startD 11 ds) ω ⟨fun _ ω => Φ .non ω, Φ, fun _ _ => False, fun _ _ => False, fun _ _ _ => False⟩) : Ok__law_told P w K mg base :=
  fnPD (K := K) (W := W__law_told) (k := 6) (n := 11) (N := n__law_told) (st := s__law_told) T.F__law_told sc__law_told rfl b__law_told (fun _ _ _ _ _ _ us hl => match us, hl with | [_, _, _, _, _], _ => rfl) len__law_told (fun f cdv A outer s H E hr => S_cons (S_for PassesOwn.never (I_seq (P_var 2)) (G_n 5 sc__law_told.nd) (S_cons (S_for PassesOwn.never (I_seq (P_var 3)) (G_n 6 sc__law_told.nd) (S_one (S_if (T_cmp (op_oNe (hq_of hr)) (P_meth (n := true) T.x_Part_InHand_InRun (MOk.cons (c := "Part") (d := "Part") (j := 0) (mm := true) (by decide) (OkC.toM (OkP.toC ok_Part_find)) (hr.mono (by decide)) (by decide) (by decide) (MOk.cons (c := "InHand") (d := "InHand") (j := 0) (mm := true) (by decide) (OkC.toM (OkP.toC ok_InHand_find)) (hr.mono (by decide)) (by decide) (by decide) (MOk.cons (c := "InRun") (d := "InRun") (j := 0) (mm := true) (by decide) (OkC.toM (OkP.toC ok_InRun_find)) (hr.mono (by decide)) (by decide) (by decide) (MOk.nil)))) takesK0 (P_var 0) (A_c (P_var 5) (A_c (P_var 6) (A_n)))) (P_callE ok__law_first (hr.mono (by decide)) T.g__law_first T.k__law_first (A_c (P_var 1) (A_c (P_var 5) (A_c (P_var 6) (A_n)))))) (S_one (S_ret (P_bl))) (S_nil)))) (S_one (S_if (T_not (T_tru (P_isi T.m_isinstance T.m_bool (by decide +kernel) (P_meth (n := true) T.x_Part_InHand_InRun (MOk.cons (c := "Part") (d := "Part") (j := 0) (mm := true) (by decide) (OkC.toM (OkP.toC ok_Part_says)) (hr.mono (by decide)) (by decide) (by decide) (MOk.cons (c := "InHand") (d := "InHand") (j := 0) (mm := true) (by decide) (OkC.toM (OkP.toC ok_InHand_says)) (hr.mono (by decide)) (by decide) (by decide) (MOk.cons (c := "InRun") (d := "InRun") (j := 0) (mm := true) (by decide) (OkC.toM (OkP.toC ok_InRun_says)) (hr.mono (by decide)) (by decide) (by decide) (MOk.nil)))) takesK0 (P_var 0) (A_c (P_var 5) (A_n)))))) (S_one (S_ret (P_bl))) (S_nil))))) (S_cons (S_for PassesOwn.never (I_seq (P_var 4)) (G_t (Gs_c (G_n 7 sc__law_told.nd) (Gs_c (G_n 8 sc__law_told.nd) (Gs_n)))) (S_cons (S_set (i := 9) sc__law_told.nd (P_callE ok__law_between (hr.mono (by decide)) T.g__law_between T.k__law_between (A_c (P_var 1) (A_c (P_var 7) (A_c (P_var 8) (A_n)))))) (S_cons (S_set (i := 10) sc__law_told.nd (P_meth (n := true) T.x_Part_InHand_InRun (MOk.cons (c := "Part") (d := "Part") (j := 0) (mm := true) (by decide) (OkC.toM (OkP.toC ok_Part_between)) (hr.mono (by decide)) (by decide) (by decide) (MOk.cons (c := "InHand") (d := "InHand") (j := 0) (mm := true) (by decide) (OkC.toM (OkP.toC ok_InHand_between)) (hr.mono (by decide)) (by decide) (by decide) (MOk.cons (c := "InRun") (d := "InRun") (j := 0) (mm := true) (by decide) (OkC.toM (OkP.toC ok_InRun_between)) (hr.mono (by decide)) (by decide) (by decide) (MOk.nil)))) takesK0 (P_var 0) (A_c (P_var 7) (A_c (P_var 8) (A_n))))) (S_cons (S_if (PW.pt (W_or (T_not (T_tru (P_callE ok__law_all_entries (hr.mono (by decide)) T.g__law_all_entries T.k__law_all_entries (A_c (P_var 10) (A_n))))) (W_or1 (T_cmp (op_oNe (hq_of hr)) (P_var 10) (P_var 9))))) (S_one (S_ret (P_bl))) (S_nil)) (S_cons (S_expr (P_M PySem.F.plainAttrs_list PySem.F.slot_list_append PySem.F.type_list_append mt_append_ (P_var 10) (A_c (P_non) (A_n)))) (S_one (S_if (T_cmp (op_oNe (hq_of hr)) (P_meth (n := true) T.x_Part_InHand_InRun (MOk.cons (c := "Part") (d := "Part") (j := 0) (mm := true) (by decide) (OkC.toM (OkP.toC ok_Part_between)) (hr.mono (by decide)) (by decide) (by decide) (MOk.cons (c := "InHand") (d := "InHand") (j := 0) (mm := true) (by decide) (OkC.toM (OkP.toC ok_InHand_between)) (hr.mono (by decide)) (by decide) (by decide) (MOk.cons (c := "InRun") (d := "InRun") (j := 0) (mm := true) (by decide) (OkC.toM (OkP.toC ok_InRun_between)) (hr.mono (by decide)) (by decide) (by decide) (MOk.nil)))) takesK0 (P_var 0) (A_c (P_var 7) (A_c (P_var 8) (A_n)))) (P_var 9)) (S_one (S_ret (P_bl))) (S_nil)))))))) (S_one (S_ret (P_and (P_isC T.o_Part_Part_InHand_InRun T.m_isinstance T.g_Part (P_var 0)) (P_one (P_isi T.m_isinstance T.m_str (by decide +kernel) (P_meth0 (n := true) T.x_Part_InHand_InRun (MOk.cons (c := "Part") (d := "Part") (j := 0) (mm := true) (by decide) (OkC.toM (OkP.toC ok_Part_called)) (hr.mono (by decide)) (by decide) (by decide) (MOk.cons (c := "InHand") (d := "InHand") (j := 0) (mm := true) (by decide) (OkC.toM (OkP.toC ok_InHand_called)) (hr.mono (by decide)) (by decide) (by decide) (MOk.cons (c := "InRun") (d := "InRun") (j := 0) (mm := true) (by decide) (OkC.toM (OkP.toC ok_InRun_called)) (hr.mono (by decide)) (by decide) (by decide) (MOk.nil)))) takesK0 (P_var 0))))))))) hw
abbrev Ok__law_says (P : Program) (w : World) (K : Fg) (mg : Str → Option Value) (base : Heap) : Prop := OkP P w K mg base 5 ("_law_says", none) ["_law_hand", "_law_run", "_law_sieve", "_law_row", "_law_words"] W__law_says
theorem dv__law_says (T : Txt K mg)  (ok_InHand___init__ : Ok_InHand___init__ P w K mg base) (ok_InHand_says : Ok_InHand_says P w K mg base) (ok_InRun_says : Ok_InRun_says P w K mg base) (ok_Part_says : Ok_Part_says P w K mg base) (ok_may_have : Ok_may_have P w K mg base) (hw : ∀ ds ω Φ, W__law_says ds ω Φ → (b__law_says : BS K).w (startD 8 ds) ω ⟨fun _ ω => Φ .non ω, Φ, fun _ _ => False, fun _ _ => False, fun _ _ _ => False⟩) : Ok__law_says P w K mg base :=
  fnPD (K := K) (W := W__law_says) (k := 4) (n := 8) (N := n__law_says) (st := s__law_says) T.F__law_says sc__law_says rfl b__law_says (fun _ _ _ _ _ _ us hl => match us, hl with | [_, _, _, _, _], _ => rfl) len__law_says (fun f cdv A outer s H E hr => S_cons (S_setLc (own := [("_law_entry", 7)]) sc__law_says.nd (I_seq (P_var 3)) (blkOk_by (N := n__law_says) (sc := defScope s__law_says) (by decide +kernel)) (fun _ _ _ _ _ => G_n 7 sc__law_says.nd) (fun _ _ _ _ _ => Ts_n) (fun _ _ _ _ _ => P_ix (P_var 7) (P_int))) (S_cons (S_for PassesOwn.never (I_seq (P_var 4)) (G_n 6 sc__law_says.nd) (S_cons (S_if (T_cmp (op_oNe (hq_of hr)) (P_meth (n := true) T.x_InHand (MOk.cons (c := "InHand") (d := "InHand") (j := 0) (mm := true) (by decide) (OkC.toM (OkP.toC ok_InHand_says)) (hr.mono (by decide)) (by decide) (by decide) (MOk.nil)) takesK0 (P_make T.x_InHand (by decide) (OkP.toC ok_InHand___init__) (by decide) (hr.mono (by decide)) T.g_InHand (A_c (P_var 0) (A_n))) (A_c (P_var 6) (A_n))) (P_cmp (op_oIn) (P_var 6) (P_var 5))) (S_one (S_ret (P_bl))) (S_nil)) (S_cons (S_if (T_cmp (op_oEqE (hq_of hr)) (P_var 3) (P_lst (A_n))) (S_one (S_cont)) (S_nil)) (S_one (S_if (PW.pt (W_or (PW.pt (W_and (T_cmp (op_oIn) (P_var 6) (P_var 5)) (W_and1 (T_not (T_tru (P_meth (n := true) T.x_Part_InRun (MOk.cons (c := "Part") (d := "Part") (j := 0) (mm := true) (by decide) (OkC.toM (OkP.toC ok_Part_says)) (hr.mono (by decide)) (by decide) (by decide) (MOk.cons (c := "InRun") (d := "InRun") (j := 0) (mm := true) (by decide) (OkC.toM (OkP.toC ok_InRun_says)) (hr.mono (by decide)) (by decide) (by decide) (MOk.nil))) takesK0 (P_var 1) (A_c (P_var 6) (A_n)))))))) (W_or1 (T_cmp (op_oNe (hq_of hr)) (P_meth (n := true) T.x_Part_InRun (MOk.cons (c := "Part") (d := "Part") (j := 0) (mm := true) (by decide) (OkC.toM (OkP.toC ok_Part_says)) (hr.mono (by decide)) (by decide) (by decide) (MOk.cons (c := "InRun") (d := "InRun") (j := 0) (mm := true) (by decide) (OkC.toM (OkP.toC ok_InRun_says)) (hr.mono (by decide)) (by decide) (by decide) (MOk.nil))) takesK0 (P_var 1) (A_c (P_var 6) (A_n))) (P_callE ok_may_have (hr.mono (by decide)) T.g_may_have T.k_may_have (A_c (P_var 2) (A_c (P_var 6) (A_n)))))))) (S_one (S_ret (P_bl))) (S_nil)))))) (S_one (S_ret (P_bl))))) hw
abbrev Ok_law (P : Program) (w : World) (K : Fg) (mg : Str → Option Value) (base : Heap) : Prop := OkP P w K mg base 8 ("law", none) ["_law_script"] W_law
theorem dv_law (T : Txt K mg)  (ok_Hand___init__ : Ok_Hand___init__ P w K mg base) (ok_Hand_put : Ok_Hand_put P w K mg base) (ok_InHand___init__ : Ok_InHand___init__ P w K mg base) (ok_InHand_called : Ok_InHand_called P w K mg base) (ok_InHand_find : Ok_InHand_find P w K mg base) (ok_InHand_says : Ok_InHand_says P w K mg base) (ok_InRun___init__ : Ok_InRun___init__ P w K mg base) (ok_InRun_called : Ok_InRun_called P w K mg base) (ok_InRun_find : Ok_InRun_find P w K mg base) (ok_InRun_says : Ok_InRun_says P w K mg base) (ok_Part_called : Ok_Part_called P w K mg base) (ok_Part_find : Ok_Part_find P w K mg base) (ok_Part_says : Ok_Part_says P w K mg base) (ok__law_cell_at : Ok__law_cell_at P w K mg base) (ok__law_entries : Ok__law_entries P w K mg base) (ok__law_keys : Ok__law_keys P w K mg base) (ok__law_many : Ok__law_many P w K mg base) (ok__law_ordered : Ok__law_ordered P w K mg base) (ok__law_says : Ok__law_says P w K mg base) (ok__law_sign : Ok__law_sign P w K mg base) (ok__law_stamps : Ok__law_stamps P w K mg base) (ok__law_told : Ok__law_told P w K mg base) (ok_run_of : Ok_run_of P w K mg base) (hw : ∀ ds ω Φ, W_law ds ω Φ → (b_law : BS K).w (startD 15 ds) ω ⟨fun _ ω => Φ .non ω, Φ, fun _ _ => False, fun _ _ => False, fun _ _ _ => False⟩) : Ok_law P w K mg base :=
  fnPD (K := K) (W := W_law) (k := 7) (n := 15) (N := n_law) (st := s_law) T.F_law sc_law rfl b_law (fun _ _ _ _ _ _ us hl => match us, hl with | [_], _ => rfl) len_law (fun f cdv A outer s H E hr => S_cons (S_set (i := 1) sc_law.nd (P_callE ok__law_entries (hr.mono (by decide)) T.g__law_entries T.k__law_entries (A_c (P_callE ok__law_cell_at (hr.mono (by decide)) T.g__law_cell_at T.k__law_cell_at (A_c (P_var 0) (A_c (P_int) (A_n)))) (A_c (P_callE ok__law_many (hr.mono (by decide)) T.g__law_many T.k__law_many (A_c (P_callE ok__law_cell_at (hr.mono (by decide)) T.g__law_cell_at T.k__law_cell_at (A_c (P_var 0) (A_c (P_int) (A_n)))) (A_n))) (A_n))))) (S_cons (S_set (i := 2) sc_law.nd (P_callE ok__law_ordered (hr.mono (by decide)) T.g__law_ordered T.k__law_ordered (A_c (P_var 1) (A_n)))) (S_cons (S_set (i := 3) sc_law.nd (P_make0 T.x_Hand (by decide) (OkP.toC ok_Hand___init__) (by decide) (hr.mono (by decide)) T.g_Hand)) (S_cons (S_for PassesOwn.never (I_seq (P_var 1)) (G_n 4 sc_law.nd) (S_one (S_expr (P_meth (n := true) T.x_Hand (MOk.cons (c := "Hand") (d := "Hand") (j := 0) (mm := true) (by decide) (OkC.toM (OkP.toC ok_Hand_put)) (hr.mono (by decide)) (by decide) (by decide) (MOk.nil)) takesK0 (P_var 3) (A_c (P_ix (P_var 4) (P_int)) (A_c (P_ix (P_var 4) (P_int)) (A_c (P_ix (P_var 4) (P_int)) (A_n)))))))) (S_cons (S_set (i := 5) sc_law.nd (P_op op_oAdd (P_sl (P_lc (own := [("_law_entry", 4)]) sc_law.nd (I_seq (P_var 2)) (blkOk_by (N := n_law) (sc := defScope s_law) (by decide +kernel)) (fun _ _ _ _ _ => G_n 4 sc_law.nd) (fun _ _ _ _ _ => Ts_n) (fun _ _ _ _ _ => P_ix (P_var 4) (P_int))) (O_n) (O_s (P_int))) (P_sl (P_callE ok__law_keys (hr.mono (by decide)) T.g__law_keys T.k__law_keys (A_c (P_op op_oDiv (P_callE ok__law_cell_at (hr.mono (by decide)) T.g__law_cell_at T.k__law_cell_at (A_c (P_var 0) (A_c (P_int) (A_n)))) (P_int)) (A_c (P_int) (A_n)))) (O_n) (O_s (P_int))))) (S_cons (S_set (i := 5) sc_law.nd (P_op op_oAdd (P_var 5) (P_lst (A_c (P_callE ok__law_sign (hr.mono (by decide)) T.g__law_sign T.k__law_sign (A_c (P_callE ok__law_cell_at (hr.mono (by decide)) T.g__law_cell_at T.k__law_cell_at (A_c (P_var 0) (A_c (P_int) (A_n)))) (A_n))) (A_n))))) (S_cons (S_set (i := 6) sc_law.nd (P_op op_oAdd (P_lst (A_c (P_op op_oSub (P_op op_oPow (P_int) (P_int)) (P_int)) (A_c (P_int) (A_n)))) (P_callE ok__law_stamps (hr.mono (by decide)) T.g__law_stamps T.k__law_stamps (A_c (P_var 1) (A_c (P_callE ok__law_cell_at (hr.mono (by decide)) T.g__law_cell_at T.k__law_cell_at (A_c (P_var 0) (A_c (P_int) (A_n)))) (A_n)))))) (S_cons (S_set (i := 7) sc_law.nd (P_lst (A_c (P_tup (A_c (P_lit) (A_c (P_non) (A_n)))) (A_c (P_tup (A_c (P_ix (P_var 5) (P_int)) (A_c (P_non) (A_n)))) (A_c (P_tup (A_c (P_lit) (A_c (P_ix (P_var 5) (P_neg (P_int))) (A_n)))) (A_c (P_tup (A_c (P_ix (P_var 5) (P_neg (P_int))) (A_c (P_ix (P_var 5) (P_int)) (A_n)))) (A_c (P_tup (A_c (P_ix (P_var 5) (P_int)) (A_c (P_op op_oAdd (P_sl (P_ix (P_var 5) (P_int)) (O_n) (O_s (P_int))) (P_lit)) (A_n)))) (A_n)))))))) (S_cons (S_set (i := 8) sc_law.nd (P_make T.x_InHand (by decide) (OkP.toC ok_InHand___init__) (by decide) (hr.mono (by decide)) T.g_InHand (A_c (P_var 3) (A_n)))) (S_cons (S_set (i := 9) sc_law.nd (P_mk0 T.x_Part (by decide) T.i_Part T.g_Part)) (S_cons (S_if (PW.pt (W_or (T_not (T_tru (P_callE ok__law_told (hr.mono (by decide)) T.g__law_told T.k__law_told (A_c (P_var 8) (A_c (P_var 2) (A_c (P_var 5) (A_c (P_var 6) (A_c (P_var 7) (A_n))))))))) (W_or1 (T_cmp (op_oNe (hq_of hr)) (P_meth0 (n := true) T.x_Part_InHand_InRun (MOk.cons (c := "Part") (d := "Part") (j := 0) (mm := true) (by decide) (OkC.toM (OkP.toC ok_Part_called)) (hr.mono (by decide)) (by decide) (by decide) (MOk.cons (c := "InHand") (d := "InHand") (j := 0) (mm := true) (by decide) (OkC.toM (OkP.toC ok_InHand_called)) (hr.mono (by decide)) (by decide) (by decide) (MOk.cons (c := "InRun") (d := "InRun") (j := 0) (mm := true) (by decide) (OkC.toM (OkP.toC ok_InRun_called)) (hr.mono (by decide)) (by decide) (by decide) (MOk.nil)))) takesK0 (P_var 8)) (P_lit))))) (S_one (S_ret (P_bl))) (S_nil)) (S_cons (S_if (PW.pt (W_or (T_not (T_tru (P_callE ok__law_told (hr.mono (by decide)) T.g__law_told T.k__law_told (A_c (P_var 9) (A_c (P_lst (A_n)) (A_c (P_var 5) (A_c (P_var 6) (A_c (P_var 7) (A_n))))))))) (W_or (T_cmp (op_oNe (hq_of hr)) (P_meth0 (n := true) T.x_Part (MOk.cons (c := "Part") (d := "Part") (j := 0) (mm := true) (by decide) (OkC.toM (OkP.toC ok_Part_called)) (hr.mono (by decide)) (by decide) (by decide) (MOk.nil)) takesK0 (P_var 9)) (P_lit)) (W_or1 (T_tru (P_meth (n := true) T.x_Part (MOk.cons (c := "Part") (d := "Part") (j := 0) (mm := true) (by decide) (OkC.toM (OkP.toC ok_Part_says)) (hr.mono (by decide)) (by decide) (by decide) (MOk.nil)) takesK0 (P_var 9) (A_c (P_ix (P_var 5) (P_int)) (A_n)))))))) (S_one (S_ret (P_bl))) (S_nil)) (S_cons (S_set (i := 10) sc_law.nd (P_op op_oAdd (P_int) (P_op op_oMod (P_callE ok__law_cell_at (hr.mono (by decide)) T.g__law_cell_at T.k__law_cell_at (A_c (P_var 0) (A_c (P_int) (A_n)))) (P_int)))) (S_cons (S_set (i := 11) sc_law.nd (P_var 9)) (S_cons (S_set (i := 12) sc_law.nd (P_tup (A_c (P_int) (A_c (P_int) (A_n))))) (S_cons (S_if (T_cmp (op_oNe (hq_of hr)) (P_var 2) (P_lst (A_n))) (S_cons (S_set (i := 13) sc_law.nd (P_callE ok_run_of (hr.mono (by decide)) T.g_run_of T.k_run_of (A_c (P_Ty call_cList T.m_list (by decide +kernel) (A_c (P_var 1) (A_n))) (A_n)))) (S_cons (S_set (i := 12) sc_law.nd (P_ix (P_var 13) (P_int))) (S_cons (S_set (i := 11) sc_law.nd (P_make T.x_InRun (by decide) (OkP.toC ok_InRun___init__) (by decide) (hr.mono (by decide)) T.g_InRun (A_c (P_var 10) (A_c (P_var 13) (A_n))))) (S_cons (S_set (i := 14) sc_law.nd (P_op op_oAdd (P_op op_oAdd (P_lit) (P_op op_oMul (P_lit) (P_op op_oSub (P_int) (P_B (call_cLen) T.m_len (by decide +kernel) (A_c (P_Ty call_cStr T.m_str (by decide +kernel) (A_c (P_var 10) (A_n))) (A_n)))))) (P_Ty call_cStr T.m_str (by decide +kernel) (A_c (P_var 10) (A_n))))) (S_one (S_if (PW.pt (W_or (T_not (T_tru (P_callE ok__law_told (hr.mono (by decide)) T.g__law_told T.k__law_told (A_c (P_var 11) (A_c (P_var 2) (A_c (P_var 5) (A_c (P_var 6) (A_c (P_var 7) (A_n))))))))) (W_or1 (T_cmp (op_oNe (hq_of hr)) (P_meth0 (n := true) T.x_Part_InRun (MOk.cons (c := "Part") (d := "Part") (j := 0) (mm := true) (by decide) (OkC.toM (OkP.toC ok_Part_called)) (hr.mono (by decide)) (by decide) (by decide) (MOk.cons (c := "InRun") (d := "InRun") (j := 0) (mm := true) (by decide) (OkC.toM (OkP.toC ok_InRun_called)) (hr.mono (by decide)) (by decide) (by decide) (MOk.nil))) takesK0 (P_var 11)) (P_var 14))))) (S_one (S_ret (P_bl))) (S_nil))))))) (S_nil)) (S_cons (S_if (T_not (T_tru (P_callE ok__law_says (hr.mono (by decide)) T.g__law_says T.k__law_says (A_c (P_var 3) (A_c (P_var 11) (A_c (P_var 12) (A_c (P_var 2) (A_c (P_var 5) (A_n))))))))) (S_one (S_ret (P_bl))) (S_nil)) (S_cons (S_expr (P_meth (n := true) T.x_Hand (MOk.cons (c := "Hand") (d := "Hand") (j := 0) (mm := true) (by decide) (OkC.toM (OkP.toC ok_Hand_put)) (hr.mono (by decide)) (by decide) (by decide) (MOk.nil)) takesK0 (P_var 3) (A_c (P_lit) (A_c (P_int) (A_c (P_lit) (A_n)))))) (S_one (S_ret (P_and (P_cmp (op_oEq (hq_of hr)) (P_meth (n := true) T.x_Part_InHand_InRun (MOk.cons (c := "Part") (d := "Part") (j := 0) (mm := true) (by decide) (OkC.toM (OkP.toC ok_Part_find)) (hr.mono (by decide)) (by decide) (by decide) (MOk.cons (c := "InHand") (d := "InHand") (j := 0) (mm := true) (by decide) (OkC.toM (OkP.toC ok_InHand_find)) (hr.mono (by decide)) (by decide) (by decide) (MOk.cons (c := "InRun") (d := "InRun") (j := 0) (mm := true) (by decide) (OkC.toM (OkP.toC ok_InRun_find)) (hr.mono (by decide)) (by decide) (by decide) (MOk.nil)))) takesK0 (P_var 8) (A_c (P_lit) (A_c (P_int) (A_n)))) (P_tup (A_c (P_lit) (A_c (P_int) (A_c (P_lit) (A_n)))))) (P_one (P_meth (n := true) T.x_Part_InHand_InRun (MOk.cons (c := "Part") (d := "Part") (j := 0) (mm := true) (by decide) (OkC.toM (OkP.toC ok_Part_says)) (hr.mono (by decide)) (by decide) (by decide) (MOk.cons (c := "InHand") (d := "InHand") (j := 0) (mm := true) (by decide) (OkC.toM (OkP.toC ok_InHand_says)) (hr.mono (by decide)) (by decide) (by decide) (MOk.cons (c := "InRun") (d := "InRun") (j := 0) (mm := true) (by decide) (OkC.toM (OkP.toC ok_InRun_says)) (hr.mono (by decide)) (by decide) (by decide) (MOk.nil)))) takesK0 (P_var 8) (A_c (P_lit) (A_n))))))))))))))))))))))))) hw
end
end
end G
namespace T
open PySem L2
section
def valsL (g : Addr → Option Obj) (a : Addr) : List Value := match g a with
  | some ⟨_, _, .dict es _, _⟩ => es.toList.map (·.val)
  | _ => []
def refL (g : Addr → Option Obj) (v : Value) : List Addr := match v with
  | .ref a => (match g a with
    | some ⟨_, _, .func fd, _⟩ => a :: (He.refV fd.code ++ He.refV fd.defaults)
    | some ⟨_, _, .seq its _, _⟩ => a :: its.toList.flatMap fun v => (match v with
      | .ref b => (match g b with
        | some ⟨_, _, .seq its _, _⟩ => b :: its.toList.flatMap He.refV
        | _ => [b])
      | _ => [])
    | some ⟨_, _, .cls cd, _⟩ => [a, cd.ns]
    | _ => [a])
  | _ => []
def reachL (g : Addr → Option Obj) : List Addr := [mainGlobals, cStatics] ++ (valsL g mainGlobals).flatMap fun v => refL g v ++ match v with
  | .ref a => (match g a with
    | some ⟨_, _, .cls cd, _⟩ => (valsL g cd.ns).flatMap (refL g)
    | _ => [])
  | _ => []
def frL (g : Addr → Option Obj) : Fg := He.frT g (reachL g)
def subB (K : Fg) : List He.Defn → List (Addr × Str) → Bool
  | [], l => l.isEmpty
  | q :: r, l => subB K r (l.filter fun p => !Nat.beq p.1 (He.cT K q).2)
theorem subB_ok {K : Fg} : ∀ {tf : List He.Defn} {l : List (Addr × Str)}, subB K tf l = true → ∀ p ∈ l, ∃ q ∈ tf, (He.cT K q).2 = p.1
  | [], l, h, p, hp => by
    have : l = [] := List.isEmpty_iff.mp h
    rw [this] at hp; cases hp
  | q :: r, l, h, p, hp => by
    cases e : Nat.beq p.1 (He.cT K q).2 with
    | true => exact ⟨q, List.mem_cons_self, (Nat.eq_of_beq_eq_true e).symm⟩
    | false =>
      obtain ⟨q', h1, h2⟩ := subB_ok (tf := r) h p (List.mem_filter.mpr ⟨hp, by rw [e]; rfl⟩)
      exact ⟨q', List.mem_cons_of_mem _ h1, h2⟩
def exL (tf : List He.Defn) (cs : Fg → Bool) (K : Fg) : Bool := subB K tf (tabsOf K) && (uniB (tabsOf K) && cs K)
theorem says_exL {fa : List He.Fa} {fn : List He.DefD} {tf : List He.Defn} {cs : Fg → Bool} {w : World} {h : Heap} {K : Fg} (c : He.SaysX fa fn [] tf (exL tf cs) w h K) : He.SaysX fa fn [] tf (exB tf) w h K ∧ cs K = true := by
  have e : (subB K tf (tabsOf K) && (uniB (tabsOf K) && cs K)) = true := c.more
  rw [Bool.and_eq_true, Bool.and_eq_true] at e
  refine ⟨⟨c.t, ?_, c.hd, c.out, c.empty⟩, e.2.2⟩
  unfold exB inB
  rw [Bool.and_eq_true, List.all_eq_true]
  refine ⟨fun p hp => ?_, e.2.1⟩
  obtain ⟨q, h1, h2⟩ := subB_ok e.1 p hp
  rw [List.contains_iff_mem]
  exact List.mem_map.mpr ⟨q, h1, h2⟩
def obsL (fa : List He.Fa) (fn : List He.DefD) (tf : List He.Defn) (ex : Fg → Bool) (g : Addr → Option Obj) : He.AlX := (He.obsT fa fn [] (frL g), ex (frL g) && He.tabsB g tf (frL g))
section
variable {fa : List He.Fa} {fn : List He.DefD} {tf : List He.Defn} {ex cs : Fg → Bool}
theorem saysL_of {w : World} {h : Heap} (e : obsL fa fn tf ex h.get? = He.valX fn [] w) : He.SaysX fa fn [] tf ex w h (frL h.get?) := by
  have e1 := congrArg Prod.fst e
  have e2 := congrArg Prod.snd e
  obtain ⟨h1, h2⟩ := Bool.and_eq_true_iff.mp (show (ex (frL h.get?) && He.tabsB h.get? tf (frL h.get?)) = true from e2)
  have one : ∀ p ∈ tf, PySem.W.codeHdIn (frL h.get?) (He.cT (frL h.get?) p).1 (He.cT (frL h.get?) p).2 = true ∧ ∃ o, h.get? (He.cT (frL h.get?) p).2 = some o ∧ He.emptyTab o = true := by
    intro p hp
    obtain ⟨k1, k2⟩ := Bool.and_eq_true_iff.mp (List.all_eq_true.mp h2 p hp)
    refine ⟨k1, ?_⟩
    split at k2
    · rename_i o q
      exact ⟨o, q, k2⟩
    · cases k2
  refine ⟨e1, h1, fun p hp => (one p hp).1, fun p hp => ?_, fun p hp => ?_⟩
  · obtain ⟨_, o, q, z⟩ := one p hp
    exact He.frT_none q z
  · obtain ⟨_, o, q, z⟩ := one p hp
    rw [q, He.emptyTab_eq z]
def hookL (fa : List He.Fa) (fn : List He.DefD) (tf : List He.Defn) (ex : Fg → Bool) : PySem.W.Hook where
  α := He.AlX
  obs := fun s => obsL fa fn tf ex s.heap.get?
  val := fun w => He.valX fn [] w
  says := fun w h => ∃ K : Fg, K.In h ∧ He.SaysX fa fn [] tf ex w h K
  of := fun _ _ e => ⟨_, He.frT_in, saysL_of e⟩
  keeps := fun _ _ _ ⟨K, hK, c⟩ k => ⟨K, PySem.W.Frag.In.keeps hK k, c.t, c.more, c.hd, c.out, fun p hp => k _ _ (c.empty p hp)⟩
theorem obsL_eq {g : Addr → Option Obj} {s : Shared} (h : ∀ a, g a = s.heap.get? a) : obsL fa fn tf ex g = (hookL fa fn tf ex).obs s := by
  rw [show g = s.heap.get? from funext h] <;> rfl
def PartL {α : Type} (r : PySem.W.OpenRow) (M : Nat) (w : World) (f : PySem.W.SharedT → α) (v : α) : Prop := ∀ os : OsState, (HandSHeadRun.endF (HandSHeadRun.stepQ (HandSHeadRun.denQ HandSHeadRun.tabQ) r.prog w) M r.prog w os).map f = some v
theorem run_parts {r : PySem.W.OpenRow} {q : Program} {H : PySem.W.Hook} {ob : PySem.W.SharedT → H.α} {M : Nat} {loose : List Str} {w : World} {α : Type} {f : PySem.W.SharedT → α} {v : α}
    (h0 : HandSHeadRun.RunEq r q PySem.W.Hook.none (fun _ => ()) M loose w) (p : PartL r M w f v) (h : ∀ s, f s = v → ob s = H.val w) : HandSHeadRun.RunEq r q H ob M loose w := by
  intro os
  have a := h0 os
  have b := p os
  cases e : HandSHeadRun.endF (HandSHeadRun.stepQ (HandSHeadRun.denQ HandSHeadRun.tabQ) r.prog w) M r.prog w os with
  | none => rw [e] at b; cases b
  | some s =>
    rw [e] at a b
    obtain ⟨a1, a2⟩ := Prod.mk.inj (Option.some.inj a)
    obtain ⟨a3, _⟩ := Prod.mk.inj a2
    exact congrArg some (Prod.ext a1 (Prod.ext a3 (h s (Option.some.inj b))))
theorem PartL.and {r : PySem.W.OpenRow} {M : Nat} {w : World} {α β : Type} {f : PySem.W.SharedT → α} {g : PySem.W.SharedT → β} {v : α} {u : β} (p : PartL r M w f v) (q : PartL r M w g u) : PartL r M w (fun s => (f s, g s)) (v, u) := by
  intro os
  have a := p os
  have b := q os
  cases e : HandSHeadRun.endF (HandSHeadRun.stepQ (HandSHeadRun.denQ HandSHeadRun.tabQ) r.prog w) M r.prog w os with
  | none => rw [e] at b; cases b
  | some s =>
    rw [e] at a b
    simp only [Option.map_some, Option.some.injEq] at a b ⊢
    rw [a, b]
abbrev getK (s : PySem.W.SharedT) : Fg := frL (HandSHeadRun.getT s)
theorem obs_parts {s : PySem.W.SharedT} {w : World} (h : ((((fa.all fun f => f.ok (getK s)) && cs (getK s), fn.all fun d => d.ok (getK s)), fn.map fun d => He.fnW (getK s) d.at_), (subB (getK s) tf (tabsOf (getK s)), uniB (tabsOf (getK s))), He.tabsB (HandSHeadRun.getT s) tf (getK s)) = (((true, true), fn.map He.DefD.val), (true, true), true)) :
    obsL fa fn tf (exL tf cs) (HandSHeadRun.getT s) = (hookL fa fn tf (exL tf cs)).val w := by
  simp only [Prod.mk.injEq, Bool.and_eq_true] at h
  obtain ⟨⟨⟨⟨h1, h2⟩, h3⟩, h4⟩, ⟨h5, h6⟩, h7⟩ := h
  show (((((fa.all fun f => f.ok (getK s)) && fn.all fun d => d.ok (getK s)), fn.map fun d => He.fnW (getK s) d.at_), []), ((subB (getK s) tf (tabsOf (getK s)) && (uniB (tabsOf (getK s)) && cs (getK s))) && He.tabsB (HandSHeadRun.getT s) tf (getK s))) = (((true, fn.map He.DefD.val), []), true)
  rw [h1, h2, h3, h4, h5, h6, h7]
  rfl
end
end
end T
namespace G
open PySem L2 T
section
def dd_probe : He.DefD := ⟨("probe", none), "probe", "probe", defArgs s_probe, defBody s_probe, defScope s_probe, [], []⟩
def dd_places : He.DefD := ⟨("places", none), "places", "places", defArgs s_places, defBody s_places, defScope s_places, [], []⟩
def dd_sieve_of : He.DefD := ⟨("sieve_of", none), "sieve_of", "sieve_of", defArgs s_sieve_of, defBody s_sieve_of, defScope s_sieve_of, [], []⟩
def dd_may_have : He.DefD := ⟨("may_have", none), "may_have", "may_have", defArgs s_may_have, defBody s_may_have, defScope s_may_have, [], []⟩
def dd_place_of : He.DefD := ⟨("place_of", none), "place_of", "place_of", defArgs s_place_of, defBody s_place_of, defScope s_place_of, [], []⟩
def dd_sieve_for : He.DefD := ⟨("sieve_for", none), "sieve_for", "sieve_for", defArgs s_sieve_for, defBody s_sieve_for, defScope s_sieve_for, [], []⟩
def dd_run_of : He.DefD := ⟨("run_of", none), "run_of", "run_of", defArgs s_run_of, defBody s_run_of, defScope s_run_of, [], []⟩
def dd_first_from : He.DefD := ⟨("first_from", none), "first_from", "first_from", defArgs s_first_from, defBody s_first_from, defScope s_first_from, [], []⟩
def dd_find : He.DefD := ⟨("find", none), "find", "find", defArgs s_find, defBody s_find, defScope s_find, [], []⟩
def dd_between : He.DefD := ⟨("between", none), "between", "between", defArgs s_between, defBody s_between, defScope s_between, [], []⟩
def dd_name_of : He.DefD := ⟨("name_of", none), "name_of", "name_of", defArgs s_name_of, defBody s_name_of, defScope s_name_of, [], []⟩
def dd_Part_called : He.DefD := ⟨("Part", some "called"), "called", "Part.called", defArgs s_Part_called, defBody s_Part_called, defScope s_Part_called, [], []⟩
def dd_Part_says : He.DefD := ⟨("Part", some "says"), "says", "Part.says", defArgs s_Part_says, defBody s_Part_says, defScope s_Part_says, [], []⟩
def dd_Part_find : He.DefD := ⟨("Part", some "find"), "find", "Part.find", defArgs s_Part_find, defBody s_Part_find, defScope s_Part_find, [], []⟩
def dd_Part_between : He.DefD := ⟨("Part", some "between"), "between", "Part.between", defArgs s_Part_between, defBody s_Part_between, defScope s_Part_between, [], []⟩
def dd_InHand___init__ : He.DefD := ⟨("InHand", some "__init__"), "__init__", "InHand.__init__", defArgs s_InHand___init__, defBody s_InHand___init__, defScope s_InHand___init__, [], []⟩
def dd_InHand_called : He.DefD := ⟨("InHand", some "called"), "called", "InHand.called", defArgs s_InHand_called, defBody s_InHand_called, defScope s_InHand_called, [], []⟩
def dd_InHand_says : He.DefD := ⟨("InHand", some "says"), "says", "InHand.says", defArgs s_InHand_says, defBody s_InHand_says, defScope s_InHand_says, [], []⟩
def dd_InHand_find : He.DefD := ⟨("InHand", some "find"), "find", "InHand.find", defArgs s_InHand_find, defBody s_InHand_find, defScope s_InHand_find, [], []⟩
def dd_InHand_between : He.DefD := ⟨("InHand", some "between"), "between", "InHand.between", defArgs s_InHand_between, defBody s_InHand_between, defScope s_InHand_between, [], []⟩
def dd_InRun___init__ : He.DefD := ⟨("InRun", some "__init__"), "__init__", "InRun.__init__", defArgs s_InRun___init__, defBody s_InRun___init__, defScope s_InRun___init__, [], []⟩
def dd_InRun_called : He.DefD := ⟨("InRun", some "called"), "called", "InRun.called", defArgs s_InRun_called, defBody s_InRun_called, defScope s_InRun_called, [], []⟩
def dd_InRun_says : He.DefD := ⟨("InRun", some "says"), "says", "InRun.says", defArgs s_InRun_says, defBody s_InRun_says, defScope s_InRun_says, [], []⟩
def dd_InRun_find : He.DefD := ⟨("InRun", some "find"), "find", "InRun.find", defArgs s_InRun_find, defBody s_InRun_find, defScope s_InRun_find, [], []⟩
def dd_InRun_between : He.DefD := ⟨("InRun", some "between"), "between", "InRun.between", defArgs s_InRun_between, defBody s_InRun_between, defScope s_InRun_between, [], []⟩
def dd_Hand___init__ : He.DefD := ⟨("Hand", some "__init__"), "__init__", "Hand.__init__", defArgs s_Hand___init__, defBody s_Hand___init__, defScope s_Hand___init__, [], []⟩
def dd_Hand_put : He.DefD := ⟨("Hand", some "put"), "put", "Hand.put", defArgs s_Hand_put, defBody s_Hand_put, defScope s_Hand_put, [], []⟩
def dd_Hand_find : He.DefD := ⟨("Hand", some "find"), "find", "Hand.find", defArgs s_Hand_find, defBody s_Hand_find, defScope s_Hand_find, [], []⟩
def dd_Hand_greatest : He.DefD := ⟨("Hand", some "greatest"), "greatest", "Hand.greatest", defArgs s_Hand_greatest, defBody s_Hand_greatest, defScope s_Hand_greatest, [], []⟩
def dd_Hand_rows : He.DefD := ⟨("Hand", some "rows"), "rows", "Hand.rows", defArgs s_Hand_rows, defBody s_Hand_rows, defScope s_Hand_rows, [], []⟩
def dd_Hand_between : He.DefD := ⟨("Hand", some "between"), "between", "Hand.between", defArgs s_Hand_between, defBody s_Hand_between, defScope s_Hand_between, [.str "", .non], []⟩
def dd__law_cell_at : He.DefD := ⟨("_law_cell_at", none), "_law_cell_at", "_law_cell_at", defArgs s__law_cell_at, defBody s__law_cell_at, defScope s__law_cell_at, [], []⟩
def dd__law_whole : He.DefD := ⟨("_law_whole", none), "_law_whole", "_law_whole", defArgs s__law_whole, defBody s__law_whole, defScope s__law_whole, [], []⟩
def dd__law_stream : He.DefD := ⟨("_law_stream", none), "_law_stream", "_law_stream", defArgs s__law_stream, defBody s__law_stream, defScope s__law_stream, [], []⟩
def dd__law_sign : He.DefD := ⟨("_law_sign", none), "_law_sign", "_law_sign", defArgs s__law_sign, defBody s__law_sign, defScope s__law_sign, [], []⟩
def dd__law_text : He.DefD := ⟨("_law_text", none), "_law_text", "_law_text", defArgs s__law_text, defBody s__law_text, defScope s__law_text, [], []⟩
def dd__law_keys : He.DefD := ⟨("_law_keys", none), "_law_keys", "_law_keys", defArgs s__law_keys, defBody s__law_keys, defScope s__law_keys, [], []⟩
def dd__law_value : He.DefD := ⟨("_law_value", none), "_law_value", "_law_value", defArgs s__law_value, defBody s__law_value, defScope s__law_value, [], []⟩
def dd__law_entries : He.DefD := ⟨("_law_entries", none), "_law_entries", "_law_entries", defArgs s__law_entries, defBody s__law_entries, defScope s__law_entries, [], []⟩
def dd__law_ordered : He.DefD := ⟨("_law_ordered", none), "_law_ordered", "_law_ordered", defArgs s__law_ordered, defBody s__law_ordered, defScope s__law_ordered, [], []⟩
def dd__law_stamps : He.DefD := ⟨("_law_stamps", none), "_law_stamps", "_law_stamps", defArgs s__law_stamps, defBody s__law_stamps, defScope s__law_stamps, [], []⟩
def dd__law_all_entries : He.DefD := ⟨("_law_all_entries", none), "_law_all_entries", "_law_all_entries", defArgs s__law_all_entries, defBody s__law_all_entries, defScope s__law_all_entries, [], []⟩
def dd__law_many : He.DefD := ⟨("_law_many", none), "_law_many", "_law_many", defArgs s__law_many, defBody s__law_many, defScope s__law_many, [], []⟩
def dd__law_first : He.DefD := ⟨("_law_first", none), "_law_first", "_law_first", defArgs s__law_first, defBody s__law_first, defScope s__law_first, [], []⟩
def dd__law_between : He.DefD := ⟨("_law_between", none), "_law_between", "_law_between", defArgs s__law_between, defBody s__law_between, defScope s__law_between, [], []⟩
def dd__law_told : He.DefD := ⟨("_law_told", none), "_law_told", "_law_told", defArgs s__law_told, defBody s__law_told, defScope s__law_told, [], []⟩
def dd__law_says : He.DefD := ⟨("_law_says", none), "_law_says", "_law_says", defArgs s__law_says, defBody s__law_says, defScope s__law_says, [], []⟩
def dd_law : He.DefD := ⟨("law", none), "law", "law", defArgs s_law, defBody s_law, defScope s_law, [], []⟩
def fn : List He.DefD := (dd_probe) :: (dd_places) :: (dd_sieve_of) :: (dd_may_have) :: (dd_place_of) :: (dd_sieve_for) :: (dd_run_of) :: (dd_first_from) :: (dd_find) :: (dd_between) :: (dd_name_of) :: (dd_Part_called) :: (dd_Part_says) :: (dd_Part_find) :: (dd_Part_between) :: (dd_InHand___init__) :: (dd_InHand_called) :: (dd_InHand_says) :: (dd_InHand_find) :: (dd_InHand_between) :: (dd_InRun___init__) :: (dd_InRun_called) :: (dd_InRun_says) :: (dd_InRun_find) :: (dd_InRun_between) :: (dd_Hand___init__) :: (dd_Hand_put) :: (dd_Hand_find) :: (dd_Hand_greatest) :: (dd_Hand_rows) :: (dd_Hand_between) :: (dd__law_cell_at) :: (dd__law_whole) :: (dd__law_stream) :: (dd__law_sign) :: (dd__law_text) :: (dd__law_keys) :: (dd__law_value) :: (dd__law_entries) :: (dd__law_ordered) :: (dd__law_stamps) :: (dd__law_all_entries) :: (dd__law_many) :: (dd__law_first) :: (dd__law_between) :: (dd__law_told) :: (dd__law_says) :: (dd_law) :: []
def fa : List He.Fa := (.free "all") :: (.free "bool") :: (.free "int") :: (.free "isinstance") :: (.free "len") :: (.free "list") :: (.free "max") :: (.free "min") :: (.free "ord") :: (.free "range") :: (.free "set") :: (.free "sorted") :: (.free "str") :: (.free "tuple") :: (.free "zip") :: (.glo "FACTORS") :: (.int "LAST_STAMP" 999999999) :: (.int "LEAST_SIZE" 8) :: (.glo "probe") :: (.glo "places") :: (.glo "sieve_of") :: (.glo "may_have") :: (.glo "place_of") :: (.glo "sieve_for") :: (.glo "run_of") :: (.glo "first_from") :: (.glo "find") :: (.glo "between") :: (.glo "name_of") :: (.glo "_law_cell_at") :: (.glo "_law_whole") :: (.glo "_law_stream") :: (.glo "_law_sign") :: (.glo "_law_text") :: (.glo "_law_keys") :: (.glo "_law_value") :: (.glo "_law_entries") :: (.glo "_law_ordered") :: (.glo "_law_stamps") :: (.glo "_law_all_entries") :: (.glo "_law_many") :: (.glo "_law_first") :: (.glo "_law_between") :: (.glo "_law_told") :: (.glo "_law_says") :: (.glo "law") :: (.glo "between_runs") :: (.glo "find_runs") :: (.glo "Hand") :: (.glo "InHand") :: (.glo "InRun") :: (.glo "Part") :: []
def names : List Str := (["_wall", "FACTORS", "LEAST_SIZE", "probe", "places", "sieve_of", "may_have", "place_of", "sieve_for", "run_of", "first_from", "find", "find_runs", "between", "between_runs", "name_of", "LAST_STAMP", "Part", "InHand", "InRun", "Hand", "_law_cell_at", "_law_whole", "_law_stream", "_law_sign", "_law_text", "_law_keys", "_law_value", "_law_entries", "_law_ordered"] : List Str) ++ (["_law_rows", "_law_stamps", "_law_all_entries", "_law_many", "_law_first", "_law_seen", "_law_between", "_law_told", "_law_says"] : List Str)
abbrev R : PySem.W.OpenRow := PySem.W.OpenLaw.row PySem.Challenge.rw_tierstore_k60_parts_tell
def cs_ (K : Fg) : Bool := He.tupB K "FACTORS" [.int 31, .int 37, .int 41] && ((He.ga K "between_runs" == He.ga K "between") && ((He.ga K "find_runs" == He.ga K "find") && (clssB cl_InHand K && (clssB cl_Hand K && (clssB cl_InRun K && (clssB cl_Part_InHand_InRun K && (clssB cl_Part_InRun K && (clssB cl_Part K && (init0B "Part" K && (isosB "Part" ["Part", "InHand", "InRun"] K))))))))))
abbrev hk : PySem.W.Hook := hookL fa fn tf (exL tf cs_)
def ob (s : PySem.W.SharedT) : He.AlX := obsL fa fn tf (exL tf cs_) (HandSHeadRun.getT s)
theorem ob_eq (s : PySem.W.SharedT) : ob s = hk.obs s.abs := obsL_eq (HandSHeadRun.getT_eq s)
theorem run0 (w : World) : HandSHeadRun.RunEq R (PySem.W.view R.prog [45]) PySem.W.Hook.none (fun _ => ()) 5360 names w := by
  intro os
  kernel_rfl
theorem hdrA (w : World) : PartL R 5360 w (fun s => (fa.all fun f => f.ok (getK s)) && cs_ (getK s)) true := by
  intro os
  kernel_rfl
theorem hdrB (w : World) : PartL R 5360 w (fun s => fn.all fun d => d.ok (getK s)) true := by
  intro os
  kernel_rfl
theorem hdrC (w : World) : PartL R 5360 w (fun s => fn.map fun d => He.fnW (getK s) d.at_) (fn.map He.DefD.val) := by
  intro os
  kernel_rfl
theorem hdrD (w : World) : PartL R 5360 w (fun s => subB (getK s) tf (tabsOf (getK s))) true := by
  intro os
  kernel_rfl
theorem hdrE (w : World) : PartL R 5360 w (fun s => uniB (tabsOf (getK s))) true := by
  intro os
  kernel_rfl
theorem hdrF (w : World) : PartL R 5360 w (fun s => He.tabsB (HandSHeadRun.getT s) tf (getK s)) true := by
  intro os
  kernel_rfl
theorem run (w : World) : HandSHeadRun.RunEq R (PySem.W.view R.prog [45]) hk ob 5360 names w := run_parts (run0 w) ((((hdrA w).and (hdrB w)).and (hdrC w)).and (((hdrD w).and (hdrE w)).and (hdrF w))) fun _ h => obs_parts h
end
section
inductive Stp where
  | wr (n t : List Nat)
  | ln (n t : List Nat)
  | tk (n : List Nat)
def Stp.name : Stp → List Nat
  | .wr n _ => n
  | .ln n _ => n
  | .tk n => n
def SSt.newM (S : SSt) (es : List Ent) : SSt := if es = [] then S else { S with fresh := S.fresh + 1, runs := S.runs ++ [(S.fresh, es)] }
def SSt.newN (S : SSt) (es : List Ent) : List Int := if es = [] then [] else [S.fresh]
def SSt.becM (S : SSt) (d : Int) (a b c : List Int) : SSt := { S with done := d, a := a, b := b, c := c }
def SSt.downNs (S : SSt) (lo : Bool) : List Int := if lo then S.b ++ S.c else S.a ++ S.b
def SSt.downL (S : SSt) (lo : Bool) : List Ent := leftL (ordE (((S.downNs lo).map (runOf S.runs)).flatten)) (ssOf S.stamps) (lo || S.c.isEmpty)
def SSt.downB (S : SSt) (lo : Bool) : SSt := if lo then (S.newM (S.downL lo)).becM S.done S.a [] (S.newN (S.downL lo)) else (S.newM (S.downL lo)).becM S.done [] (S.newN (S.downL lo)) S.c
def takeM : List Int → SSt → SSt
  | [], S => S
  | n :: r, S => takeM r { S with runs := S.runs.filter fun p => decide (p.1 ≠ n) }
def SSt.downM (S : SSt) (lo : Bool) : SSt := takeM (sortI (S.downNs lo)) (S.downB lo)
def SSt.bM (S : SSt) : SSt := if S.w * S.f * S.f < (S.bSz : Int) then S.downM true else S
def wLast : List Nat := [108, 97, 115, 116]
def wHand : List Nat := [104, 97, 110, 100]
def wTiers : List Nat := [116, 105, 101, 114, 115]
def wRuns : List Nat := [114, 117, 110, 115]
def wHeld : List Nat := [104, 101, 108, 100]
structure MAd where
  m : Addr
  hd : Addr
  rd : Addr
  ld : Addr
def sDk (l : List (List Nat × D)) : List (Key × D) := l.map fun p => (.inr (sOf p.1), p.2)
def mKs (B : MAd) (S : SSt) : List (List Nat × D) := [(wLast, .int S.last), (wHand, .ref B.hd), (wTiers, tiersD S.fresh S.done S.a S.b S.c), (wRuns, .ref B.rd), (wHeld, .ref B.ld)]
def hkv (e : Ent) : List Key × D := ([.inr (sOf e.1), .inl e.2.1], vD e.2.2)
def rkv (p : Int × List Ent) : Key × D := (.inl p.1, .lst (p.2.map eD))
structure ModR (ω : Om) (B : MAd) (S : SSt) : Prop where
  m : ω B.m = some (.dk (sDk (mKs B S)))
  h : ∃ hs : List Ent, dtOf (ω B.hd) = some (hs.map hkv) ∧ hs.Perm S.hand
  r : ω B.rd = some (.dk (S.runs.map rkv))
  l : ω B.ld = some (.lst (S.stamps.map .int))
  mr : B.m ≠ B.rd
end
end G
namespace G
open PySem L2 T
local macro_rules | `(tactic| walk_at "t_side") => `(tactic| first | assumption | omega | decide | (simp only [List.length_append, List.length_cons, List.length_nil, List.length_map, List.length_flatten, List.length_replicate]; done) | (simp only [List.length_append, List.length_cons, List.length_nil, List.length_map, List.length_flatten, List.length_replicate]; omega))
local macro_rules | `(tactic| walk_at "t_x1") => `(tactic| simp (disch := (walk_at "t_side")) only [↓x_conK, ↓x_clo, ↓x_lenSetS, ↓x_WClo, ↓x_optS, ↓x_cL, ↓x_cI, ↓x_cK, ↓x_sz, ↓x_rg1, ↓x_rg2, ↓x_varS, ↓x_var, ↓x_addS, ↓x_addT, ↓x_addL, ↓x_addOL, ↓x_mul, ↓x_mulS, ↓x_mulLF, ↓x_mulLT, ↓x_div, ↓x_mod, ↓x_pow4, ↓x_pow5, ↓x_pow6, ↓x_pow7, ↓x_pow9, ↓x_pow12, ↓x_pow60, ↓x_shr, ↓x_isT, ↓x_isF, ↓x_isNT, ↓x_isNF, ↓x_isN, ↓x_isNN, ↓x_non0, ↓x_non1, ↓x_non2, ↓x_non3, ↓x_non4, ↓x_non5, ↓x_non6, ↓x_ixS, ↓x_ixT, ↓x_ixC, ↓x_ixL, ↓x_ixR, ↓x_at0, ↓x_at1, ↓x_at2, ↓x_at3, ↓x_at4, ↓x_at5, ↓x_at6, ↓x_at7, ↓x_at8, ↓x_at9, ↓x_at10, ↓x_slS, ↓x_slL, ↓x_slLO, ↓x_slC, ↓x_slR, ↓x_slRO, ↓x_in, ↓x_nin, ↓x_truS, ↓x_lenS, ↓x_lenR, ↓x_isW0, ↓x_isW1, ↓x_isW2, ↓x_isW3, ↓x_isW4, ↓x_isW5, ↓x_isTii, ↓x_isTbi, ↓x_isTbb, ↓x_isTib, ↓x_isTss, ↓x_isTtt, ↓x_isTll, ↓x_isTnt, ↓x_isTst, ↓x_isTit, ↓x_isTlt, ↓x_isTbt, ↓x_isTni, ↓x_isTns, ↓x_isTis, ↓x_isTbs, ↓x_isTts, ↓x_isTls, ↓x_isTsi, ↓x_isTti, ↓x_isTli, ↓x_isTtl, ↓x_gT, ↓x_itR, ↓x_truR, ↓x_setS, ↓x_setN, ↓x_it, ↓x_con, ↓x_lit, ↓x_int, ↓x_op, ↓x_add, ↓x_sub, ↓x_neg, ↓x_lt, ↓x_le, ↓x_gt, ↓x_ge, ↓x_ltS, ↓x_leS, ↓x_gtS, ↓x_geS, ↓x_eqI, ↓x_eqS, ↓x_eqB, ↓x_neI, ↓x_neS, ↓x_neB, ↓x_eqN, ↓x_neN, ↓x_eqIN, ↓x_eqNI, ↓x_eqSN, ↓x_eqNS, ↓x_isB, ↓x_isNB, ↓x_sl, ↓x_oN, ↓x_oS, ↓x_slT, ↓x_baN, ↓x_baC, ↓x_tup, ↓x_lst, ↓x_lstO, ↓x_tru, ↓x_truB, ↓x_truN, ↓x_truI, ↓x_truT, ↓x_truL, ↓x_tC, ↓x_tB, ↓x_tand, ↓x_tor, ↓x_tnot, ↓x_yes, ↓x_and, ↓x_or, ↓x_not, ↓x_if, ↓x_chain, ↓x_bl, ↓x_cb, ↓x_lenT, ↓x_lenL, ↓x_lenC, ↓x_max, ↓x_min, ↓x_isi, ↓x_frz, ↓x_next, ↓x_break, ↓x_cont, ↓x_asg, ↓x_gsN, ↓x_gsC, ↓x_drop, ↓x_ret, ↓x_retN, ↓x_sif, ↓x_for, ↓x_seqI, ↓x_itL, ↓x_itT, ↓x_itC, ↓x_itS, ↓x_r1, ↓x_r2, ↓x_dk, ↓x_dt, ↓x_lc, ↓x_lcO, ↓x_need, ↓x_seqL, ↓x_seqT, ↓x_seqC, ↓x_seqR, ↓x_lstL, ↓x_lstR, ↓x_ints, ↓x_ints0, ↓x_ints1, ↓x_strs, ↓x_strs0, ↓x_strs1, ↓x_bls, ↓x_bls0, ↓x_bls1, ↓x_omap, ↓x_cl, ↓x_clO, ↓x_ctu, ↓x_strI, ↓x_strS, ↓x_intI, ↓x_intB, ↓x_intS, ↓x_ord, ↓x_sum, ↓x_maxL, ↓x_minL, ↓x_any, ↓x_all2, ↓x_bM, ↓x_bM0, ↓x_tyS, ↓x_tyL, ↓x_tyR, ↓x_tyC0, ↓x_tyC1, ↓x_tyC2, ↓x_needE, ↓x_app, ↓x_ext, ↓x_pop, ↓x_popAt, ↓x_rev, ↓x_clr, ↓x_ins, ↓x_split, ↓x_part, ↓x_join, ↓x_zf, ↓x_sidx, ↓x_eqE0, ↓x_eqE1, ↓x_set0, ↓x_set1, ↓x_gNs, ↓x_augs, ↓x_vr0, ↓x_vr1, ↓x_oa0, ↓x_oa1, ↓x_oa2, ↓x_oa3, ↓x_oa4, ↓x_oa5, ↓x_oa6, ↓x_oa7, ↓x_oa8, ↓x_oa9, ↓x_oa10, ↓x_cLS, ↓x_cLN, ↓x_ssL, ↓x_ssT, ↓x_ssC, ↓x_slsL, ↓x_oi, ↓x_oi0, ↓x_oi1, ↓x_os, ↓x_os0, ↓x_os1, ↓x_ob, ↓x_ob0, ↓x_ob1, ↓x_ntS, ↓x_ntL, ↓x_ntR, ↓x_ntN, ↓x_cutT1, ↓x_cutT2, ↓x_cutT0, ↓x_cutF1, ↓x_cutF2, ↓x_cutF3, ↓x_gT2, ↓x_gT3, ↓x_gT4, ↓x_gT5, ↓x_apd0, ↓x_apd1, ↓x_call0, ↓x_callD, ↓x_mulT, ↓x_fmt, ↓x_strW, ↓x_join2, ↓x_birev, ↓x_bienum, ↓x_lxL, ↓x_bizip, ↓x_lxZ, ↓x_birevS, ↓x_lxx0, ↓x_lxx1, ↓x_lxx2, ↓x_no, ↓x_band, ↓x_bor, ↓x_bxor, ↓x_shl, ↓x_cbk, ↓x_maxD, ↓x_sortI, ↓x_sortIo, ↓x_lenSetI, ↓x_ninR, ↓x_inR, ↓x_eqRL, ↓x_neRL, ↓x_gSub, ↓x_gsW, ↓x_sel, ↓x_sortKF, ↓x_sortKT, ↓x_one1, ↓x_itV, ↓x_kwL, ↓x_kwF, ↓x_kEnv, ↓x_vo0, ↓x_vo1, ↓x_revLF, ↓x_revLT, List.map_cons, List.map_nil, List.set_cons_zero, List.set_cons_succ, List.getElem?_cons_zero, List.getElem?_cons_succ, List.length_cons, List.length_nil, List.replicate, List.cons_append, List.nil_append, start_def, decide_eq_true_eq, Bool.not_eq_true, Bool.not_eq_true', Bool.and_eq_true, Bool.or_eq_true, decide_eq_false_iff_not, Bool.not_not, Bool.not_true, Bool.not_false, ↓reduceIte, wipeD, Bool.false_eq_true, reduceCtorEq, Nat.reduceSub, Nat.reduceAdd, and_true, true_and, List.isEmpty_cons, List.isEmpty_nil, not_true_eq_false, not_false_eq_true, or_false, or_true, true_or, false_or, and_false, false_and, Bool.true_or, Bool.false_or, Bool.or_true, Bool.or_false, Bool.true_and, Bool.and_true, Bool.false_and, Bool.and_false, bne_iff_ne, ne_eq, implies_true, List.append_nil, Int.cast_ofNat_Int, Int.reduceEq, Int.reduceLT, Int.reduceLE, Int.reduceAdd, Int.reduceSub, Int.reduceMul, Int.reduceNeg, Int.reduceToNat, decide_true, decide_false, Int.reduceMod, Int.reduceDiv, Nat.reduceMul, List.flatten_nil, List.flatten_cons])
local macro_rules | `(tactic| walk_at "t_x") => `(tactic| ((try (simp only [start_def]; simp only [List.map_cons, List.map_nil, List.length_cons, List.length_nil, Nat.reduceAdd, Nat.reduceSub, List.replicate, List.cons_append, List.nil_append])); try (walk_at "t_x1"; try walk_at "t_x1")))
section
variable {K : Fg} {ω : Om} {Φ : D → Om → Prop}
theorem placeN_nil (f : Int) : placeN f [] = 7 := rfl
theorem placeN_snoc (f : Int) (t : List Nat) (c : Nat) : placeN f (t ++ [c]) = (placeN f t * f + (c : Int)) % 1000003 := by unfold placeN; rw [List.foldl_append]; rfl
theorem placeN_bd (f : Int) (t : List Nat) : 0 ≤ placeN f t ∧ placeN f t < 1000003 := by
  induction t using snoc_ind with
  | h0 => rw [placeN_nil]; omega
  | h1 t c ih => rw [placeN_snoc]; exact ⟨Int.emod_nonneg _ (by omega), Int.emod_lt_of_pos _ (by omega)⟩
theorem hw_probe_in : ∀ ds ω Φ, W_probe_in ds ω Φ → (b_probe_in : BS K).w (startD 5 ds) ω ⟨fun _ ω => Φ .non ω, Φ, fun _ _ => False, fun _ _ => False, fun _ _ _ => False⟩ := by
  rintro ds ω Φ ⟨t, size, f, rfl, h0, h1, h2, h⟩
  unfold b_probe_in
  refine w_cut (fun ρ1 ω1 => ω1 = ω ∧ ρ1 = [some (.str t), some (.int size), some (.int f), some (.int 7), none]) (fun N hN => by walk_at "t_x"; exact hN _ _ ⟨rfl, rfl⟩) ?_
  rintro _ ω ⟨rfl, rfl⟩
  refine w_cut (fun ρ1 ω1 => ω1 = ω ∧ ∃ y, ρ1 = [some (.str t), some (.int size), some (.int f), some (.int (placeN f t)), y]) (fun N hN => ?_) ?_
  · walk_at "t_x"
    refine for_go (fun i ρ1 ω1 => ω1 = ω ∧ ∃ y, ρ1 = [some (.str t), some (.int size), some (.int f), some (.int (placeN f (t.take i))), y]) ?_ ?_ ⟨rfl, none, rfl⟩
    · rintro i d _ _ N hd ⟨rfl, y, rfl⟩ hN
      rw [List.getElem?_map] at hd
      cases ht : t[i]? with
      | none => rw [ht] at hd; cases hd
      | some c =>
        rw [ht] at hd; cases hd
        refine ⟨trivial, ?_⟩
        have bd := placeN_bd f (t.take i)
        have et : t.take (i + 1) = t.take i ++ [c] := by rw [List.take_succ, ht]; rfl
        walk_at "t_x"
        refine hN _ _ ⟨rfl, some (.str [c]), ?_⟩
        rw [et, placeN_snoc]
    · rintro _ _ ⟨rfl, y, rfl⟩
      rw [List.length_map, List.take_length]
      exact ⟨trivial, hN _ _ ⟨rfl, y, rfl⟩⟩
  · rintro _ _ ⟨rfl, y, rfl⟩
    walk_at "t_x"
    exact h
theorem x_prb {t : List Nat} {size f : Int} (h0 : 0 < size) (h1 : 0 ≤ f ∧ f ≤ 1000000) : cloW W_probe_in (.int f) [.str t, .int size] ω Φ = Φ (.int (placeN f t % size)) ω := propext ⟨fun ⟨_, _, r, _, ⟨t', s', f', e, _, _, _, z⟩, h⟩ => by
  have e : [D.str t, .int size, .int f] = [.str t', .int s', .int f'] := e
  cases e; subst z; exact h, fun h => ⟨rfl, rfl, _, rfl, ⟨t, size, f, rfl, h0, h1.1, h1.2, rfl⟩, h⟩⟩
theorem hw_places : ∀ ds ω Φ, W_places ds ω Φ → (b_places : BS K).w (startD 4 ds) ω ⟨fun _ ω => Φ .non ω, Φ, fun _ _ => False, fun _ _ => False, fun _ _ _ => False⟩ := by
  rintro ds ω Φ ⟨t, size, rfl, h0, h⟩
  unfold b_places
  walk_at "t_x"
  refine lc_mapT D.int (fun f => D.clo "probe" (.int f)) facs (by decide) trivial (fun f hf Q hq => ?_) ?_
  · walk_at "t_x"
    exact hq
  walk_at "t_x"
  refine lc_mapT (fun f => D.clo "probe" (.int f)) (fun f => D.int (placeN f t % size)) facs (by decide) trivial (fun f hf Q hq => ?_) ?_
  · have hf : 0 ≤ f ∧ f ≤ 1000000 := by
      unfold facs at hf
      simp only [List.mem_cons, List.not_mem_nil, or_false] at hf
      omega
    rw [x_clo (d := .int f) rfl]
    walk_at "t_x"
    rw [x_prb h0 hf]
    exact hq
  rw [show placesOf t size = facs.map fun f => placeN f t % size from rfl, List.map_map] at h
  exact h
theorem x_places {t : List Nat} {size : Int} (h0 : 0 < size) : W_places [.str t, .int size] ω Φ = Φ (.lst ((placesOf t size).map .int)) ω := propext ⟨fun ⟨a, b, e, _, z⟩ => by cases e; exact z, fun z => ⟨t, size, rfl, h0, z⟩⟩
theorem places_bd {t : List Nat} {size x : Int} (h0 : 0 < size) (h : x ∈ placesOf t size) : 0 ≤ x ∧ x < size := by
  obtain ⟨f, _, rfl⟩ := List.mem_map.mp h
  exact ⟨Int.emod_nonneg _ (by omega), Int.emod_lt_of_pos _ h0⟩
theorem or_bit (b : Nat) {x : Int} (h : 0 ≤ x) : PySem.Builtin.bitOr (b : Int) (1 * 2 ^ x.toNat) = ((b ||| 2 ^ x.toNat : Nat) : Int) := by
  have e : (1 * 2 ^ x.toNat : Int) = ((2 ^ x.toNat : Nat) : Int) := by rw [Int.one_mul]; push_cast; rfl
  rw [e, Bits.bitOr_pp (Int.natCast_nonneg _) (Int.natCast_nonneg _), Int.toNat_natCast, Int.toNat_natCast]
theorem or_test (b n p : Nat) : (b ||| 2 ^ n).testBit p = (b.testBit p || decide (p = n)) := by
  rw [Nat.testBit_or, Nat.testBit_two_pow]
  congr 1
  exact decide_eq_decide.mpr ⟨fun h => h.symm, fun h => h.symm⟩
theorem sz_pos (ts : List (List Nat)) : 0 < (sieveSz ts : Int) := by unfold sieveSz; omega
theorem hw_sieve_of : ∀ ds ω Φ, W_sieve_of ds ω Φ → (b_sieve_of : BS K).w (startD 5 ds) ω ⟨fun _ ω => Φ .non ω, Φ, fun _ _ => False, fun _ _ => False, fun _ _ _ => False⟩ := by
  rintro ds ω Φ ⟨d, ts, rfl, hL, hz, h⟩
  have hu := uq_le ts
  have hs : sieveSz ts ≤ 32000 := by unfold sieveSz; omega
  have h0 := sz_pos ts
  unfold b_sieve_of
  refine w_cut (fun ρ1 ω1 => ω1 = ω ∧ ρ1 = [some d, some (.int (sieveSz ts : Nat)), none, none, none]) (fun N hN => ?_) ?_
  · walk_at "t_x"
    rw [hL]
    walk_at "t_x"
    refine hN _ _ ⟨rfl, ?_⟩
    have e : ((sieveSz ts : Nat) : Int) = (max 8 (8 * ((uq ts).length : Int)) : Int) := by unfold sieveSz; omega
    rw [e]
  rintro _ ω ⟨rfl, rfl⟩
  refine w_cut (fun ρ1 ω1 => ω1 = ω ∧ ρ1 = [some d, some (.int (sieveSz ts : Nat)), some (.int 0), none, none]) (fun N hN => by walk_at "t_x"; exact hN _ _ ⟨rfl, rfl⟩) ?_
  rintro _ ω ⟨rfl, rfl⟩
  refine w_cut (fun ρ1 ω1 => ω1 = ω ∧ ∃ (b : Nat) (y z : Option D), (∀ p, b.testBit p = markedB ts (sieveSz ts) p) ∧ ρ1 = [some d, some (.int (sieveSz ts : Nat)), some (.int (b : Nat)), y, z]) (fun N hN => ?_) ?_
  · walk_at "t_x"
    refine it_any hL fun chk hc => ?_
    refine for_go (fun i ρ1 ω1 => ω = ω1 ∧ ∃ (b : Nat) (y z : Option D), (∀ p, b.testBit p = markedB (ts.take i) (sieveSz ts) p) ∧ ρ1 = [some d, some (.int (sieveSz ts : Nat)), some (.int (b : Nat)), y, z]) ?_ ?_ ⟨rfl, 0, none, none, fun p => by simp [markedB], rfl⟩
    · rintro i e _ _ N hd ⟨rfl, b, y, z, hb, rfl⟩ hN
      rw [List.getElem?_map] at hd
      cases ht : ts[i]? with
      | none => rw [ht] at hd; cases hd
      | some t =>
        rw [ht] at hd; cases hd
        refine ⟨hc, ?_⟩
        walk_at "t_x"
        rw [x_places h0]
        walk_at "t_x"
        refine for_go (fun j ρ1 ω1 => ω = ω1 ∧ ∃ (b' : Nat) (z : Option D), (∀ p, b'.testBit p = (markedB (ts.take i) (sieveSz ts) p || ((placesOf t (sieveSz ts)).take j).any fun x => x == (p : Int))) ∧ ρ1 = [some d, some (.int (sieveSz ts : Nat)), some (.int (b' : Nat)), some (.str t), z]) ?_ ?_ ⟨rfl, b, z, fun p => by rw [hb]; simp, rfl⟩
        · rintro j e _ _ N hd ⟨rfl, b', z, hb', rfl⟩ hN
          rw [List.getElem?_map] at hd
          cases hp : (placesOf t (sieveSz ts))[j]? with
          | none => rw [hp] at hd; cases hd
          | some x =>
            rw [hp] at hd; cases hd
            have bd := places_bd h0 (List.mem_of_getElem? hp)
            refine ⟨trivial, ?_⟩
            walk_at "t_x"
            rw [x_shl (.inl ⟨bd.1, by omega, by decide⟩)]
            walk_at "t_x"
            rw [or_bit b' bd.1]
            refine hN _ _ ⟨rfl, _, some (.int x), fun p => ?_, rfl⟩
            rw [or_test, hb', List.take_succ, hp, Bool.or_assoc, List.any_append]
            congr 2
            show decide (p = x.toNat) = ((x == (p : Int)) || false)
            rw [Bool.or_false, Bool.eq_iff_iff, decide_eq_true_iff, beq_iff_eq]
            omega
        · rintro _ _ ⟨rfl, b', z, hb', rfl⟩
          refine ⟨trivial, hN _ _ ⟨rfl, b', _, z, fun p => ?_, rfl⟩⟩
          rw [hb', List.length_map, List.take_length, List.take_succ, ht]
          unfold markedB
          rw [List.any_append]
          simp
    · rintro _ _ ⟨rfl, b, y, z, hb, rfl⟩
      rw [List.length_map, List.take_length] at hb
      exact ⟨hc, hN _ _ ⟨rfl, b, y, z, hb, rfl⟩⟩
  · rintro _ _ ⟨rfl, b, y, z, hb, rfl⟩
    walk_at "t_x"
    exact h b hb
theorem and1_bit (b : Nat) {x : Int} (h : 0 ≤ x) : decide (PySem.Builtin.bitAnd ((b : Int) / 2 ^ x.toNat) 1 = 1) = b.testBit x.toNat := by
  have e : ((b : Int) / 2 ^ x.toNat) = ((b / 2 ^ x.toNat : Nat) : Int) := by push_cast; rfl
  have e2 : PySem.Builtin.bitAnd ((b / 2 ^ x.toNat : Nat) : Int) 1 = ((b / 2 ^ x.toNat : Nat) : Int) % 2 := Bits.bitAnd_mask 1 (Int.natCast_nonneg _)
  rw [e, e2, Nat.testBit_eq_decide_div_mod_eq, Bool.eq_iff_iff, decide_eq_true_iff, decide_eq_true_iff]
  omega
theorem hw_may_have : ∀ ds ω Φ, W_may_have ds ω Φ → (b_may_have : BS K).w (startD 3 ds) ω ⟨fun _ ω => Φ .non ω, Φ, fun _ _ => False, fun _ _ => False, fun _ _ _ => False⟩ := by
  rintro ds ω Φ ⟨size, b, t, rfl, h0, h⟩
  unfold b_may_have
  walk_at "t_x"
  rw [x_places h0]
  walk_at "t_x"
  refine lc_mapT D.int (fun x : Int => D.bl (b.testBit x.toNat)) (placesOf t size) (by rw [show (placesOf t size).length = 3 from rfl]; omega) trivial (fun x hx Q hq => ?_) ?_
  · have bd := places_bd h0 hx
    walk_at "t_x"
    rw [and1_bit b bd.1]
    exact hq
  walk_at "t_x"
  have e : ((placesOf t size).map fun x => D.bl (b.testBit x.toNat)) = ((placesOf t size).map fun x => b.testBit x.toNat).map .bl := by rw [List.map_map]; rfl
  rw [e, blsOf_map]
  show Φ (.bl (((placesOf t size).map fun x => b.testBit x.toNat).all id)) ω
  rw [List.all_map]
  exact h
theorem x_may {size : Int} {b : Nat} {t : List Nat} (h0 : 0 < size) : W_may_have [.tup [.int size, .int (b : Nat)], .str t] ω Φ = Φ (.bl ((placesOf t size).all fun x => b.testBit x.toNat)) ω := propext ⟨fun ⟨a, b', t', e, _, z⟩ => by
  simp only [List.cons.injEq, D.tup.injEq, D.int.injEq, D.str.injEq, and_true] at e
  obtain ⟨⟨rfl, e2⟩, rfl⟩ := e
  have : b = b' := by omega
  subst this
  exact z, fun z => ⟨size, b, t, rfl, h0, z⟩⟩
end
section
variable {K : Fg} {ω : Om} {Φ : D → Om → Prop}
theorem del_new {ω : Om} {a : Addr} {c : Cell} (h : ω a = none) : (ω.set a c).del a = ω := by
  funext b
  show (if b = a then none else ω.set a c b) = ω b
  by_cases e : b = a
  · rw [if_pos e, e, h]
  · rw [if_neg e, Om.set_ne e]
theorem joinL_nil' : ∀ ts : List (List Nat), TL.joinL [] ts = ts.flatten
  | [] => rfl
  | [t] => by simp [joinL1]
  | t :: u :: r => by rw [joinL2, joinL_nil' (u :: r)]; simp
theorem ok_asc {s : List Nat} (h : s.all okc = true) : s.all (· < 0x110000) = true := List.all_eq_true.mpr fun c hc => by
  have := List.all_eq_true.mp h c hc
  unfold okc at this
  simp at this ⊢; omega
def plD (e : Ent) : D := .tup [.str e.1, .int (-e.2.1)]
theorem ahead_lt (a b : Ent) : dlt (plD a) (plD b) = aheadB a b := by
  unfold plD aheadB
  rw [dlt_two]
  unfold lt2
  by_cases c : a.1 = b.1
  · rw [if_pos c, c]
    have : ltS b.1 b.1 = false := by unfold ltS; simpa using List.lt_irrefl b.1
    rw [this]
    simp
  · rw [if_neg c]
    cases h : ltS a.1 b.1 with
    | true => rfl
    | false =>
      have h : ¬ a.1 < b.1 := of_decide_eq_false h
      have : ltS b.1 a.1 = true := by
        unfold ltS
        refine decide_eq_true (Classical.byContradiction fun g => c ?_)
        exact List.le_antisymm (List.not_lt.mp g) (List.not_lt.mp h)
      simp [this]
theorem ltS_asym {s t : List Nat} (h : ltS s t = true) : ltS t s = false := by
  unfold ltS at h ⊢
  exact decide_eq_false (List.lt_asymm (of_decide_eq_true h))
theorem ahead_asym {a b : Ent} (h : aheadB a b = true) : aheadB b a = false := by
  unfold aheadB at h ⊢
  by_cases c : a.1 = b.1
  · rw [if_pos c] at h; rw [if_pos c.symm]; have := of_decide_eq_true h; exact decide_eq_false (by omega)
  · rw [if_neg c] at h; rw [if_neg (fun z => c z.symm)]; exact ltS_asym h
theorem ahead_neg {a b c : Ent} (h : aheadB a c = true) : aheadB a b = true ∨ aheadB b c = true := by
  rw [← ahead_lt] at h
  rw [← ahead_lt, ← ahead_lt]
  unfold dlt PySem.W.dataLt at h ⊢
  have := (PyProof.Rows.listOrd PyProof.Rows.itemOrd).negTrans (PySem.W.keyToks (toPy (plD a))) (PySem.W.keyToks (toPy (plD b))) (PySem.W.keyToks (toPy (plD c))) h
  exact this
theorem pw_both {α : Type} {R S T : α → α → Prop} (f : ∀ a b, R a b → S a b → T a b) : ∀ {l : List α}, l.Pairwise R → l.Pairwise S → l.Pairwise T
  | [], _, _ => .nil
  | x :: l, h, g => by
    obtain ⟨h1, h2⟩ := List.pairwise_cons.mp h
    obtain ⟨g1, g2⟩ := List.pairwise_cons.mp g
    exact List.pairwise_cons.mpr ⟨fun y hy => f x y (h1 y hy) (g1 y hy), pw_both f h2 g2⟩
theorem dist_perm {a b : List Ent} (p : a.Perm b) (h : Dist b) : Dist a := (p.pairwise_iff fun {x y} h z => h ⟨z.1.symm, z.2.symm⟩).mpr h
theorem ahead_tot {a b : Ent} (h : ¬ (a.1 = b.1 ∧ a.2.1 = b.2.1)) (g : aheadB a b = false) : aheadB b a = true := by
  unfold aheadB at g ⊢
  by_cases c : a.1 = b.1
  · rw [if_pos c] at g; rw [if_pos c.symm]
    have := of_decide_eq_false g
    have : a.2.1 ≠ b.2.1 := fun z => h ⟨c, z⟩
    exact decide_eq_true (by omega)
  · rw [if_neg c] at g; rw [if_neg (fun z => c z.symm)]
    unfold ltS at g ⊢
    have g := of_decide_eq_false g
    exact decide_eq_true (Classical.byContradiction fun z => c (List.le_antisymm (List.not_lt.mp z) (List.not_lt.mp g)))
theorem ord_one {a b : List Ent} (h : a.Pairwise fun a b => aheadB a b = true) (g : b.Pairwise fun a b => aheadB a b = true) (p : a.Perm b) : a = b :=
  List.Perm.eq_of_pairwise (fun x y _ _ h1 h2 => by rw [ahead_asym h1] at h2; cases h2) h g p
theorem eD_inj {x y : Ent} (h : eD x = eD y) : x = y := by
  obtain ⟨k, s, v⟩ := x; obtain ⟨l, t, u⟩ := y
  unfold eD at h
  simp only [D.tup.injEq, List.cons.injEq, D.str.injEq, D.int.injEq, and_true] at h
  obtain ⟨rfl, rfl, h⟩ := h
  cases v <;> cases u <;> simp [vD] at h ⊢
  exact h
theorem key_ok {e : Ent} (h : OkE e) : KeyOk (plD e) := keyOk_two (ok_asc h.k.1) _
theorem sort_rows0 {kw : KW} {ρ : En} {es : List Ent} {F : List D → Prop} (hes : ∀ e ∈ es, OkE e) (hk : ∀ e ∈ es, ∀ Φ' : D → Om → Prop, Φ' (plD e) ω → kw ρ (eD e) ω Φ') (h : ∀ rs : List Ent, rs.Perm es → (rs.Pairwise fun a b => aheadB b a = false) → F (rs.map eD)) : sortW false kw ρ (es.map eD) ω F := by
  let k : D → D := fun d => match d with
    | .tup [.str s, .int i, _] => .tup [.str s, .int (-i)]
    | _ => .non
  have kE : ∀ e : Ent, k (eD e) = plD e := fun e => rfl
  refine ⟨k, fun d hd => ?_, fun d hd e he => ?_, .inl fun d hd => ?_, ?_⟩
  · obtain ⟨e, he, rfl⟩ := List.mem_map.mp hd
    exact ⟨key_ok (hes e he), fun Φ' q => hk e he Φ' q⟩
  · obtain ⟨a, ha, rfl⟩ := List.mem_map.mp hd
    obtain ⟨b, hb, rfl⟩ := List.mem_map.mp he
    exact alk_two _ _ _ _
  · obtain ⟨e, he, rfl⟩ := List.mem_map.mp hd
    exact ⟨_, _, rfl⟩
  have ek : ∀ a b : Ent, leK false k (eD a) (eD b) = !aheadB b a := fun a b => by
    rw [leK_eq, kE, kE]
    show (!dlt (plD b) (plD a)) = _
    rw [ahead_lt]
  obtain ⟨rs, e, p, pw⟩ : ∃ rs : List Ent, (es.map eD).mergeSort (leK false k) = rs.map eD ∧ rs.Perm es ∧ rs.Pairwise fun a b => (!aheadB b a) = true := by
    refine ⟨es.mergeSort fun a b => !aheadB b a, ?_, List.mergeSort_perm _ _, List.pairwise_mergeSort (le := fun a b => !aheadB b a) (fun a b c h1 h2 => ?_) (fun a b => ?_) es⟩
    rotate_left
    · simp only [Bool.not_eq_true'] at h1 h2 ⊢
      cases q : aheadB c a with
      | false => rfl
      | true => rcases ahead_neg (b := b) q with z | z <;> simp_all
    · cases q : aheadB b a with
      | false => rfl
      | true => simp [ahead_asym q]
    exact (List.map_mergeSort (r := fun a b => !aheadB b a) (s := leK false k) (f := eD) (l := es) fun a _ b _ => (ek a b).symm).symm
  rw [e]
  exact h rs p (pw.imp fun {a b} z => by simpa using z)
theorem pw_ahead {es rs : List Ent} (di : Dist es) (p : rs.Perm es) (pw : rs.Pairwise fun a b => aheadB b a = false) : rs.Pairwise fun a b => aheadB a b = true :=
  pw_both (R := fun a b : Ent => ¬ (a.1 = b.1 ∧ a.2.1 = b.2.1)) (fun a b h1 h2 => ahead_tot (fun z => h1 ⟨z.1.symm, z.2.symm⟩) h2) (dist_perm p di) pw
theorem sort_rows {kw : KW} {ρ : En} {es : List Ent} {F : List D → Prop} (hes : ∀ e ∈ es, OkE e) (di : Dist es) (hk : ∀ e ∈ es, ∀ Φ' : D → Om → Prop, Φ' (plD e) ω → kw ρ (eD e) ω Φ') (h : ∀ rs : List Ent, rs.Perm es → (rs.Pairwise fun a b => aheadB a b = true) → F (rs.map eD)) : sortW false kw ρ (es.map eD) ω F :=
  sort_rows0 hes hk fun rs p pw => h rs p (pw_ahead di p pw)
theorem sq_two {d : D} {ds : List D} (h : sqOf ω d = some ds) : d = .tup ds ∨ lstOf ω d = some ds := by
  cases d with
  | tup es => left; cases h; rfl
  | _ => exact .inr h
theorem it_sq {L : D} {ds : List D} {F : List D → (Om → Prop) → Om → Prop} (h : sqOf ω L = some ds) (q : ∀ chk : Om → Prop, chk ω → F ds chk ω) : itemsW L ω F := by
  rcases sq_two h with rfl | h
  · exact q _ trivial
  · exact it_any h q
theorem sq_lst {L : D} {ds : List D} (h : lstOf ω L = some ds) : sqOf ω L = some ds := by
  cases L <;> first | exact h | cases h
theorem uq_ne {rs : List Ent} (h : rs ≠ []) : 1 ≤ (uq (keysOf rs)).length := by
  cases rs with
  | nil => exact absurd rfl h
  | cons e r => exact List.length_pos_of_mem ((uq_mem _ e.1).mpr (List.mem_cons_self))
theorem in_strs {neg : Bool} {t : List Nat} {d : D} {ts : List (List Nat)} (h : lstOf ω d = some (ts.map .str)) : (oIn neg : O2 K).w (.str t) d ω Φ = Φ (.bl (if neg then !decide (t ∈ ts) else decide (t ∈ ts))) ω := by
  have fl : (ts.map D.str).all flatD = true := by rw [List.all_map]; exact List.all_eq_true.mpr fun _ _ => rfl
  have e : ((ts.map D.str).any fun e => eqF e (.str t)) = decide (t ∈ ts) := by
    rw [List.any_map, Bool.eq_iff_iff, List.any_eq_true, decide_eq_true_iff]
    constructor
    · rintro ⟨x, h1, h2⟩
      have : x = t := of_decide_eq_true h2
      exact this ▸ h1
    · intro h; exact ⟨t, h, decide_eq_true rfl⟩
  show inW neg (.str t) d ω Φ = _
  rcases lst_two h with rfl | ⟨a, rfl, ha⟩
  · refine propext ⟨fun ⟨ds, h1, _, _, z⟩ => ?_, fun z => ⟨_, h, rfl, fl, by rw [e]; exact z⟩⟩
    rw [h] at h1; cases h1
    rw [e] at z; exact z
  · refine propext ⟨fun ⟨ds, h1, _, _, z⟩ => ?_, fun z => ⟨_, h, rfl, fl, by rw [e]; exact z⟩⟩
    rw [h] at h1; cases h1
    rw [e] at z; exact z
theorem keys_dt {a : Addr} {kvs : List (List Key × D)} {F : List D → (Om → Prop) → Om → Prop} (h : ω a = some (.dt kvs)) (q : ∀ o xs, F (kvs.map fun p => .tup (p.1.map kD)) (fun ω' => ω' a = some (.ft o xs kvs)) (ω.set a (.ft o xs kvs))) : keysW (.ref a) ω F := by
  unfold keysW
  simp only [h]
  exact q
theorem marked_lt {ts : List (List Nat)} {n p : Nat} (h0 : 0 < n) (h : markedB ts n p = true) : p < n := by
  unfold markedB at h
  obtain ⟨t, _, h⟩ := List.any_eq_true.mp h
  obtain ⟨x, hx, h⟩ := List.any_eq_true.mp h
  have := places_bd (by omega) hx
  have := eq_of_beq h
  omega
theorem marks_one {rs : List Ent} {b c : Nat} (h : Marks rs b) (g : Marks rs c) : b = c := Nat.eq_of_testBit_eq fun p => by rw [h, g]
theorem pl_lt (e : Ent) (k : List Nat) (s : Int) : dlt (plD e) (.tup [.str k, .int s]) = lt2 e.1 (-e.2.1) k s := dlt_two _ _ _ _
theorem eD_ok {e : Ent} (h : OkE e) : dOk 1 (eD e) := by
  obtain ⟨k, s, v⟩ := e
  obtain ⟨hk, hs, hv⟩ := h
  refine dOk_tup fun d hd => ?_
  simp only [List.mem_cons, List.not_mem_nil, or_false] at hd
  rcases hd with rfl | rfl | rfl
  · exact dOk_str (ok_asc hk.1)
  · exact dOk_int
  · cases v with
    | none => exact dOk_non
    | some v => exact dOk_str (ok_asc (hv v rfl).1)
theorem esD_ok {rs : List Ent} (h : ∀ e ∈ rs, OkE e) : dOk 2 (.lst (rs.map eD)) := dOk_lst fun d hd => by
  obtain ⟨e, he, rfl⟩ := List.mem_map.mp hd
  exact eD_ok (h e he)
end
section
variable {K : Fg} {ω : Om} {Φ : D → Om → Prop}
theorem x_number {w : List Nat} {l m : Int} (h : w.length ≤ 10000000) : W_number_in [.str w, .int l, .int m] ω Φ = Φ (oInt (numIn w l m)) ω := propext ⟨fun ⟨a, b, c, e, _, z⟩ => by cases e; exact z, fun z => ⟨w, l, m, rfl, h, z⟩⟩
theorem x_oInt {i : Int} : oInt (some i) = .int i := rfl
end
end G
namespace G
open PySem L2 T
local macro_rules | `(tactic| walk_at "t_side") => `(tactic| first | assumption | omega | decide | (simp only [List.length_append, List.length_cons, List.length_nil, List.length_map, List.length_flatten, List.length_replicate]; done) | (simp only [List.length_append, List.length_cons, List.length_nil, List.length_map, List.length_flatten, List.length_replicate]; omega))
local macro_rules | `(tactic| walk_at "t_x1") => `(tactic| simp (disch := (walk_at "t_side")) only [↓x_optS, ↓x_cL, ↓x_cI, ↓x_cK, ↓x_sz, ↓x_rg1, ↓x_rg2, ↓x_varS, ↓x_var, ↓x_addS, ↓x_addT, ↓x_addL, ↓x_addOL, ↓x_mul, ↓x_mulS, ↓x_mulLF, ↓x_mulLT, ↓x_div, ↓x_mod, ↓x_pow4, ↓x_pow5, ↓x_pow6, ↓x_pow7, ↓x_pow9, ↓x_pow12, ↓x_pow60, ↓x_shr, ↓x_isT, ↓x_isF, ↓x_isNT, ↓x_isNF, ↓x_isN, ↓x_isNN, ↓x_non0, ↓x_non1, ↓x_non2, ↓x_non3, ↓x_non4, ↓x_non5, ↓x_non6, ↓x_ixS, ↓x_ixT, ↓x_ixC, ↓x_ixL, ↓x_ixR, ↓x_at0, ↓x_at1, ↓x_at2, ↓x_at3, ↓x_at4, ↓x_at5, ↓x_at6, ↓x_at7, ↓x_at8, ↓x_at9, ↓x_at10, ↓x_slS, ↓x_slL, ↓x_slLO, ↓x_slC, ↓x_slR, ↓x_slRO, ↓x_in, ↓x_nin, ↓x_truS, ↓x_lenS, ↓x_lenR, ↓x_isW0, ↓x_isW1, ↓x_isW2, ↓x_isW3, ↓x_isW4, ↓x_isW5, ↓x_isTii, ↓x_isTbi, ↓x_isTbb, ↓x_isTib, ↓x_isTss, ↓x_isTtt, ↓x_isTll, ↓x_isTnt, ↓x_isTst, ↓x_isTit, ↓x_isTlt, ↓x_isTbt, ↓x_isTni, ↓x_isTns, ↓x_isTis, ↓x_isTbs, ↓x_isTts, ↓x_isTls, ↓x_isTsi, ↓x_isTti, ↓x_isTli, ↓x_isTtl, ↓x_gT, ↓x_itR, ↓x_truR, ↓x_setS, ↓x_setN, ↓x_it, ↓x_con, ↓x_lit, ↓x_int, ↓x_op, ↓x_add, ↓x_sub, ↓x_neg, ↓x_lt, ↓x_le, ↓x_gt, ↓x_ge, ↓x_ltS, ↓x_leS, ↓x_gtS, ↓x_geS, ↓x_eqI, ↓x_eqS, ↓x_eqB, ↓x_neI, ↓x_neS, ↓x_neB, ↓x_eqN, ↓x_neN, ↓x_eqIN, ↓x_eqNI, ↓x_eqSN, ↓x_eqNS, ↓x_isB, ↓x_isNB, ↓x_sl, ↓x_oN, ↓x_oS, ↓x_slT, ↓x_baN, ↓x_baC, ↓x_tup, ↓x_lst, ↓x_lstO, ↓x_tru, ↓x_truB, ↓x_truN, ↓x_truI, ↓x_truT, ↓x_truL, ↓x_tC, ↓x_tB, ↓x_tand, ↓x_tor, ↓x_tnot, ↓x_yes, ↓x_and, ↓x_or, ↓x_not, ↓x_if, ↓x_chain, ↓x_bl, ↓x_cb, ↓x_lenT, ↓x_lenL, ↓x_lenC, ↓x_max, ↓x_min, ↓x_isi, ↓x_frz, ↓x_next, ↓x_break, ↓x_cont, ↓x_asg, ↓x_gsN, ↓x_gsC, ↓x_drop, ↓x_ret, ↓x_retN, ↓x_sif, ↓x_for, ↓x_seqI, ↓x_itL, ↓x_itT, ↓x_itC, ↓x_itS, ↓x_r1, ↓x_r2, ↓x_dk, ↓x_dt, ↓x_lc, ↓x_lcO, ↓x_need, ↓x_seqL, ↓x_seqT, ↓x_seqC, ↓x_seqR, ↓x_lstL, ↓x_lstR, ↓x_ints, ↓x_ints0, ↓x_ints1, ↓x_strs, ↓x_strs0, ↓x_strs1, ↓x_bls, ↓x_bls0, ↓x_bls1, ↓x_omap, ↓x_cl, ↓x_clO, ↓x_ctu, ↓x_strI, ↓x_strS, ↓x_intI, ↓x_intB, ↓x_intS, ↓x_ord, ↓x_sum, ↓x_maxL, ↓x_minL, ↓x_any, ↓x_all2, ↓x_bM, ↓x_bM0, ↓x_tyS, ↓x_tyL, ↓x_tyR, ↓x_tyC0, ↓x_tyC1, ↓x_tyC2, ↓x_needE, ↓x_app, ↓x_ext, ↓x_pop, ↓x_popAt, ↓x_rev, ↓x_clr, ↓x_ins, ↓x_split, ↓x_part, ↓x_join, ↓x_zf, ↓x_sidx, ↓x_eqE0, ↓x_eqE1, ↓x_set0, ↓x_set1, ↓x_gNs, ↓x_augs, ↓x_vr0, ↓x_vr1, ↓x_oa0, ↓x_oa1, ↓x_oa2, ↓x_oa3, ↓x_oa4, ↓x_oa5, ↓x_oa6, ↓x_oa7, ↓x_oa8, ↓x_oa9, ↓x_oa10, ↓x_cLS, ↓x_cLN, ↓x_ssL, ↓x_ssT, ↓x_ssC, ↓x_slsL, ↓x_oi, ↓x_oi0, ↓x_oi1, ↓x_os, ↓x_os0, ↓x_os1, ↓x_ob, ↓x_ob0, ↓x_ob1, ↓x_ntS, ↓x_ntL, ↓x_ntR, ↓x_ntN, ↓x_cutT1, ↓x_cutT2, ↓x_cutT0, ↓x_cutF1, ↓x_cutF2, ↓x_cutF3, ↓x_gT2, ↓x_gT3, ↓x_gT4, ↓x_gT5, ↓x_apd0, ↓x_apd1, ↓x_call0, ↓x_callD, ↓x_mulT, ↓x_fmt, ↓x_strW, ↓x_join2, ↓x_birev, ↓x_bienum, ↓x_lxL, ↓x_bizip, ↓x_lxZ, ↓x_birevS, ↓x_lxx0, ↓x_lxx1, ↓x_lxx2, ↓x_no, ↓x_band, ↓x_bor, ↓x_bxor, ↓x_shl, ↓x_cbk, ↓x_maxD, ↓x_sortI, ↓x_sortIo, ↓x_lenSetI, ↓x_ninR, ↓x_inR, ↓x_eqRL, ↓x_neRL, ↓x_gSub, ↓x_gsW, ↓x_sel, ↓x_sortKF, ↓x_sortKT, ↓x_one1, ↓x_itV, ↓x_kwL, ↓x_kwF, ↓x_kEnv, ↓x_vo0, ↓x_vo1, ↓x_revLF, ↓x_revLT, List.map_cons, List.map_nil, List.set_cons_zero, List.set_cons_succ, List.getElem?_cons_zero, List.getElem?_cons_succ, List.length_cons, List.length_nil, List.replicate, List.cons_append, List.nil_append, start_def, decide_eq_true_eq, Bool.not_eq_true, Bool.not_eq_true', Bool.and_eq_true, Bool.or_eq_true, decide_eq_false_iff_not, Bool.not_not, Bool.not_true, Bool.not_false, ↓reduceIte, wipeD, Bool.false_eq_true, reduceCtorEq, Nat.reduceSub, Nat.reduceAdd, and_true, true_and, List.isEmpty_cons, List.isEmpty_nil, not_true_eq_false, not_false_eq_true, or_false, or_true, true_or, false_or, and_false, false_and, Bool.true_or, Bool.false_or, Bool.or_true, Bool.or_false, Bool.true_and, Bool.and_true, Bool.false_and, Bool.and_false, bne_iff_ne, ne_eq, implies_true, List.append_nil, Int.cast_ofNat_Int, Int.reduceEq, Int.reduceLT, Int.reduceLE, Int.reduceAdd, Int.reduceSub, Int.reduceMul, Int.reduceNeg, Int.reduceToNat, decide_true, decide_false, Int.reduceMod, Int.reduceDiv, Nat.reduceMul, List.flatten_nil, List.flatten_cons])
local macro_rules | `(tactic| walk_at "t_xs1") => `(tactic| simp (disch := (walk_at "t_side")) only [↓x_seq, ↓x_optS, ↓x_cL, ↓x_cI, ↓x_cK, ↓x_sz, ↓x_rg1, ↓x_rg2, ↓x_varS, ↓x_var, ↓x_addS, ↓x_addT, ↓x_addL, ↓x_addOL, ↓x_mul, ↓x_mulS, ↓x_mulLF, ↓x_mulLT, ↓x_div, ↓x_mod, ↓x_pow4, ↓x_pow5, ↓x_pow6, ↓x_pow7, ↓x_pow9, ↓x_pow12, ↓x_pow60, ↓x_shr, ↓x_isT, ↓x_isF, ↓x_isNT, ↓x_isNF, ↓x_isN, ↓x_isNN, ↓x_non0, ↓x_non1, ↓x_non2, ↓x_non3, ↓x_non4, ↓x_non5, ↓x_non6, ↓x_ixS, ↓x_ixT, ↓x_ixC, ↓x_ixL, ↓x_ixR, ↓x_at0, ↓x_at1, ↓x_at2, ↓x_at3, ↓x_at4, ↓x_at5, ↓x_at6, ↓x_at7, ↓x_at8, ↓x_at9, ↓x_at10, ↓x_slS, ↓x_slL, ↓x_slLO, ↓x_slC, ↓x_slR, ↓x_slRO, ↓x_in, ↓x_nin, ↓x_truS, ↓x_lenS, ↓x_lenR, ↓x_isW0, ↓x_isW1, ↓x_isW2, ↓x_isW3, ↓x_isW4, ↓x_isW5, ↓x_isTii, ↓x_isTbi, ↓x_isTbb, ↓x_isTib, ↓x_isTss, ↓x_isTtt, ↓x_isTll, ↓x_isTnt, ↓x_isTst, ↓x_isTit, ↓x_isTlt, ↓x_isTbt, ↓x_isTni, ↓x_isTns, ↓x_isTis, ↓x_isTbs, ↓x_isTts, ↓x_isTls, ↓x_isTsi, ↓x_isTti, ↓x_isTli, ↓x_isTtl, ↓x_gT, ↓x_itR, ↓x_truR, ↓x_setS, ↓x_setN, ↓x_it, ↓x_con, ↓x_lit, ↓x_int, ↓x_op, ↓x_add, ↓x_sub, ↓x_neg, ↓x_lt, ↓x_le, ↓x_gt, ↓x_ge, ↓x_ltS, ↓x_leS, ↓x_gtS, ↓x_geS, ↓x_eqI, ↓x_eqS, ↓x_eqB, ↓x_neI, ↓x_neS, ↓x_neB, ↓x_eqN, ↓x_neN, ↓x_eqIN, ↓x_eqNI, ↓x_eqSN, ↓x_eqNS, ↓x_isB, ↓x_isNB, ↓x_sl, ↓x_oN, ↓x_oS, ↓x_slT, ↓x_baN, ↓x_baC, ↓x_tup, ↓x_lst, ↓x_lstO, ↓x_tru, ↓x_truB, ↓x_truN, ↓x_truI, ↓x_truT, ↓x_truL, ↓x_tC, ↓x_tB, ↓x_tand, ↓x_tor, ↓x_tnot, ↓x_yes, ↓x_and, ↓x_or, ↓x_not, ↓x_if, ↓x_chain, ↓x_bl, ↓x_cb, ↓x_lenT, ↓x_lenL, ↓x_lenC, ↓x_max, ↓x_min, ↓x_isi, ↓x_frz, ↓x_next, ↓x_break, ↓x_cont, ↓x_asg, ↓x_gsN, ↓x_gsC, ↓x_drop, ↓x_ret, ↓x_retN, ↓x_sif, ↓x_for, ↓x_seqI, ↓x_itL, ↓x_itT, ↓x_itC, ↓x_itS, ↓x_r1, ↓x_r2, ↓x_dk, ↓x_dt, ↓x_lc, ↓x_lcO, ↓x_need, ↓x_seqL, ↓x_seqT, ↓x_seqC, ↓x_seqR, ↓x_lstL, ↓x_lstR, ↓x_ints, ↓x_ints0, ↓x_ints1, ↓x_strs, ↓x_strs0, ↓x_strs1, ↓x_bls, ↓x_bls0, ↓x_bls1, ↓x_omap, ↓x_cl, ↓x_clO, ↓x_ctu, ↓x_strI, ↓x_strS, ↓x_intI, ↓x_intB, ↓x_intS, ↓x_ord, ↓x_sum, ↓x_maxL, ↓x_minL, ↓x_any, ↓x_all2, ↓x_bM, ↓x_bM0, ↓x_tyS, ↓x_tyL, ↓x_tyR, ↓x_tyC0, ↓x_tyC1, ↓x_tyC2, ↓x_needE, ↓x_app, ↓x_ext, ↓x_pop, ↓x_popAt, ↓x_rev, ↓x_clr, ↓x_ins, ↓x_split, ↓x_part, ↓x_join, ↓x_zf, ↓x_sidx, ↓x_eqE0, ↓x_eqE1, ↓x_set0, ↓x_set1, ↓x_gNs, ↓x_augs, ↓x_vr0, ↓x_vr1, ↓x_oa0, ↓x_oa1, ↓x_oa2, ↓x_oa3, ↓x_oa4, ↓x_oa5, ↓x_oa6, ↓x_oa7, ↓x_oa8, ↓x_oa9, ↓x_oa10, ↓x_cLS, ↓x_cLN, ↓x_ssL, ↓x_ssT, ↓x_ssC, ↓x_slsL, ↓x_oi, ↓x_oi0, ↓x_oi1, ↓x_os, ↓x_os0, ↓x_os1, ↓x_ob, ↓x_ob0, ↓x_ob1, ↓x_ntS, ↓x_ntL, ↓x_ntR, ↓x_ntN, ↓x_cutT1, ↓x_cutT2, ↓x_cutT0, ↓x_cutF1, ↓x_cutF2, ↓x_cutF3, ↓x_gT2, ↓x_gT3, ↓x_gT4, ↓x_gT5, ↓x_apd0, ↓x_apd1, ↓x_call0, ↓x_callD, ↓x_mulT, ↓x_fmt, ↓x_strW, ↓x_join2, ↓x_birev, ↓x_bienum, ↓x_lxL, ↓x_bizip, ↓x_lxZ, ↓x_birevS, ↓x_lxx0, ↓x_lxx1, ↓x_lxx2, ↓x_no, ↓x_band, ↓x_bor, ↓x_bxor, ↓x_shl, ↓x_cbk, ↓x_maxD, ↓x_sortI, ↓x_sortIo, ↓x_lenSetI, ↓x_ninR, ↓x_inR, ↓x_eqRL, ↓x_neRL, ↓x_gSub, ↓x_gsW, ↓x_sel, ↓x_sortKF, ↓x_sortKT, ↓x_one1, ↓x_itV, ↓x_kwL, ↓x_kwF, ↓x_kEnv, ↓x_vo0, ↓x_vo1, ↓x_revLF, ↓x_revLT, List.map_cons, List.map_nil, List.set_cons_zero, List.set_cons_succ, List.getElem?_cons_zero, List.getElem?_cons_succ, List.length_cons, List.length_nil, List.replicate, List.cons_append, List.nil_append, start_def, decide_eq_true_eq, Bool.not_eq_true, Bool.not_eq_true', Bool.and_eq_true, Bool.or_eq_true, decide_eq_false_iff_not, Bool.not_not, Bool.not_true, Bool.not_false, ↓reduceIte, wipeD, Bool.false_eq_true, reduceCtorEq, Nat.reduceSub, Nat.reduceAdd, and_true, true_and, List.isEmpty_cons, List.isEmpty_nil, not_true_eq_false, not_false_eq_true, or_false, or_true, true_or, false_or, and_false, false_and, Bool.true_or, Bool.false_or, Bool.or_true, Bool.or_false, Bool.true_and, Bool.and_true, Bool.false_and, Bool.and_false, bne_iff_ne, ne_eq, implies_true, List.append_nil, Int.cast_ofNat_Int, Int.reduceEq, Int.reduceLT, Int.reduceLE, Int.reduceAdd, Int.reduceSub, Int.reduceMul, Int.reduceNeg, Int.reduceToNat, decide_true, decide_false, Int.reduceMod, Int.reduceDiv, Nat.reduceMul, List.flatten_nil, List.flatten_cons])
local macro_rules | `(tactic| walk_at "t_x") => `(tactic| ((try (simp only [start_def]; simp only [List.map_cons, List.map_nil, List.length_cons, List.length_nil, Nat.reduceAdd, Nat.reduceSub, List.replicate, List.cons_append, List.nil_append])); try (walk_at "t_x1"; try walk_at "t_x1")))
local macro_rules | `(tactic| walk_at "t_xs") => `(tactic| ((try (simp only [start_def]; simp only [List.map_cons, List.map_nil, List.length_cons, List.length_nil, Nat.reduceAdd, Nat.reduceSub, List.replicate, List.cons_append, List.nil_append])); try (walk_at "t_xs1"; try walk_at "t_xs1")))
section
variable {K : Fg}
theorem hw__law_cell_at : ∀ ds ω Φ, W__law_cell_at ds ω Φ → (b__law_cell_at : BS K).w (startD 2 ds) ω ⟨fun _ ω => Φ .non ω, Φ, fun _ _ => False, fun _ _ => False, fun _ _ _ => False⟩ := by
  rintro ds ω Φ ⟨ns, k, rfl, h0, h⟩
  unfold b__law_cell_at
  walk_at "t_xs"
  refine iteI (fun c => ?_) (fun c => ?_)
  · rw [atI_nn h0]
    have e : ns[k.toNat]? = some (cellAt ns k) := by
      unfold cellAt
      rw [List.getD_eq_getElem?_getD, List.getElem?_eq_getElem (by omega)]; rfl
    rw [e]; exact h
  · have e : cellAt ns k = 0 := by
      unfold cellAt
      rw [List.getD_eq_getElem?_getD, List.getElem?_eq_none (by omega)]; rfl
    rw [e] at h
    exact h
end
end G
namespace G
open PySem L2 T
local macro_rules | `(tactic| walk_at "t_side") => `(tactic| first | assumption | omega | decide | (simp only [List.length_append, List.length_cons, List.length_nil, List.length_map, List.length_flatten, List.length_replicate]; done) | (simp only [List.length_append, List.length_cons, List.length_nil, List.length_map, List.length_flatten, List.length_replicate]; omega))
local macro_rules | `(tactic| walk_at "t_x1") => `(tactic| simp (disch := (walk_at "t_side")) only [↓x_fld, ↓x_sfld, ↓x_meth, ↓x_make, ↓x_dget2, ↓x_dsetd, ↓x_dpop, ↓x_biVals, ↓x_biItems, ↓x_biKeysF, ↓x_listItems, ↓x_refW, ↓x_insW, ↓x_kvW, ↓x_dkOf1, ↓x_dkOf2, ↓x_dg1W, ↓x_keyS, ↓x_keyI, ↓x_tab1, ↓x_frzW, ↓x_dnewK, ↓x_bdget, ↓x_dgetW1, ↓x_dgetW2, ↓x_bdput, ↓x_dputK1, ↓x_dputK2, ↓x_lenK, ↓x_listK0, ↓x_sortS0, ↓x_sortKF, ↓x_one1, ↓x_kwL, ↓x_kEnv, ↓x_vo0, ↓x_vo1, ↓x_optS, ↓x_cL, ↓x_cI, ↓x_cK, ↓x_sz, ↓x_rg1, ↓x_rg2, ↓x_varS, ↓x_var, ↓x_addS, ↓x_addT, ↓x_addL, ↓x_addOL, ↓x_mul, ↓x_mulS, ↓x_mulLF, ↓x_mulLT, ↓x_div, ↓x_mod, ↓x_pow4, ↓x_pow5, ↓x_pow6, ↓x_pow7, ↓x_pow9, ↓x_pow12, ↓x_pow60, ↓x_shr, ↓x_isT, ↓x_isF, ↓x_isNT, ↓x_isNF, ↓x_isN, ↓x_isNN, ↓x_non0, ↓x_non1, ↓x_non2, ↓x_non3, ↓x_non4, ↓x_non5, ↓x_non6, ↓x_ixS, ↓x_ixT, ↓x_ixC, ↓x_ixL, ↓x_ixR, ↓x_at0, ↓x_at1, ↓x_at2, ↓x_at3, ↓x_at4, ↓x_at5, ↓x_at6, ↓x_at7, ↓x_at8, ↓x_at9, ↓x_at10, ↓x_slS, ↓x_slL, ↓x_slLO, ↓x_slC, ↓x_slR, ↓x_slRO, ↓x_in, ↓x_nin, ↓x_truS, ↓x_lenS, ↓x_lenR, ↓x_isW0, ↓x_isW1, ↓x_isW2, ↓x_isW3, ↓x_isW4, ↓x_isW5, ↓x_isTii, ↓x_isTbi, ↓x_isTbb, ↓x_isTib, ↓x_isTss, ↓x_isTtt, ↓x_isTll, ↓x_isTnt, ↓x_isTst, ↓x_isTit, ↓x_isTlt, ↓x_isTbt, ↓x_isTni, ↓x_isTns, ↓x_isTis, ↓x_isTbs, ↓x_isTts, ↓x_isTls, ↓x_isTsi, ↓x_isTti, ↓x_isTli, ↓x_isTtl, ↓x_gT, ↓x_itR, ↓x_truR, ↓x_setS, ↓x_setN, ↓x_it, ↓x_con, ↓x_lit, ↓x_int, ↓x_op, ↓x_add, ↓x_sub, ↓x_neg, ↓x_lt, ↓x_le, ↓x_gt, ↓x_ge, ↓x_ltS, ↓x_leS, ↓x_gtS, ↓x_geS, ↓x_eqI, ↓x_eqS, ↓x_eqB, ↓x_neI, ↓x_neS, ↓x_neB, ↓x_eqN, ↓x_neN, ↓x_eqIN, ↓x_eqNI, ↓x_eqSN, ↓x_eqNS, ↓x_isB, ↓x_isNB, ↓x_sl, ↓x_oN, ↓x_oS, ↓x_slT, ↓x_baN, ↓x_baC, ↓x_tup, ↓x_lst, ↓x_lstO, ↓x_tru, ↓x_truB, ↓x_truN, ↓x_truI, ↓x_truT, ↓x_truL, ↓x_tC, ↓x_tB, ↓x_tand, ↓x_tor, ↓x_tnot, ↓x_yes, ↓x_and, ↓x_or, ↓x_not, ↓x_if, ↓x_chain, ↓x_bl, ↓x_cb, ↓x_lenT, ↓x_lenL, ↓x_lenC, ↓x_max, ↓x_min, ↓x_isi, ↓x_frz, ↓x_next, ↓x_break, ↓x_cont, ↓x_asg, ↓x_gsN, ↓x_gsC, ↓x_drop, ↓x_ret, ↓x_retN, ↓x_sif, ↓x_for, ↓x_seqI, ↓x_itL, ↓x_itT, ↓x_itC, ↓x_itS, ↓x_r1, ↓x_r2, ↓x_dk, ↓x_dt, ↓x_lc, ↓x_lcO, ↓x_need, ↓x_seqL, ↓x_seqT, ↓x_seqC, ↓x_seqR, ↓x_lstL, ↓x_lstR, ↓x_ints, ↓x_ints0, ↓x_ints1, ↓x_strs, ↓x_strs0, ↓x_strs1, ↓x_bls, ↓x_bls0, ↓x_bls1, ↓x_omap, ↓x_cl, ↓x_clO, ↓x_ctu, ↓x_strI, ↓x_strS, ↓x_intI, ↓x_intB, ↓x_intS, ↓x_ord, ↓x_sum, ↓x_maxL, ↓x_minL, ↓x_any, ↓x_all2, ↓x_bM, ↓x_bM0, ↓x_tyS, ↓x_tyL, ↓x_tyR, ↓x_tyC0, ↓x_tyC1, ↓x_tyC2, ↓x_needE, ↓x_app, ↓x_ext, ↓x_pop, ↓x_popAt, ↓x_rev, ↓x_clr, ↓x_ins, ↓x_split, ↓x_part, ↓x_join, ↓x_zf, ↓x_sidx, ↓x_eqE0, ↓x_eqE1, ↓x_set0, ↓x_set1, ↓x_gNs, ↓x_augs, ↓x_vr0, ↓x_vr1, ↓x_oa0, ↓x_oa1, ↓x_oa2, ↓x_oa3, ↓x_oa4, ↓x_oa5, ↓x_oa6, ↓x_oa7, ↓x_oa8, ↓x_oa9, ↓x_oa10, ↓x_cLS, ↓x_cLN, ↓x_ssL, ↓x_ssT, ↓x_ssC, ↓x_slsL, ↓x_oi, ↓x_oi0, ↓x_oi1, ↓x_os, ↓x_os0, ↓x_os1, ↓x_ob, ↓x_ob0, ↓x_ob1, ↓x_ntS, ↓x_ntL, ↓x_ntR, ↓x_ntN, ↓x_cutT1, ↓x_cutT2, ↓x_cutT0, ↓x_cutF1, ↓x_cutF2, ↓x_cutF3, ↓x_gT2, ↓x_gT3, ↓x_gT4, ↓x_gT5, ↓x_apd0, ↓x_apd1, ↓x_call0, ↓x_callD, ↓x_mulT, ↓x_fmt, ↓x_strW, ↓x_join2, ↓x_birev, ↓x_bienum, ↓x_lxL, ↓x_bizip, ↓x_lxZ, ↓x_birevS, ↓x_lxx0, ↓x_lxx1, ↓x_lxx2, ↓x_no, ↓x_band, ↓x_bor, ↓x_bxor, ↓x_shl, ↓x_cbk, ↓x_maxD, ↓x_sortI, ↓x_sortIo, ↓x_lenSetI, ↓x_ninR, ↓x_inR, ↓x_eqRL, ↓x_neRL, ↓x_gSub, ↓x_gsW, ↓x_sel, ↓x_sortKF, ↓x_sortKT, ↓x_one1, ↓x_itV, ↓x_kwL, ↓x_kwF, ↓x_kEnv, ↓x_vo0, ↓x_vo1, ↓x_revLF, ↓x_revLT, List.map_cons, List.map_nil, List.set_cons_zero, List.set_cons_succ, List.getElem?_cons_zero, List.getElem?_cons_succ, List.length_cons, List.length_nil, List.replicate, List.cons_append, List.nil_append, start_def, decide_eq_true_eq, Bool.not_eq_true, Bool.not_eq_true', Bool.and_eq_true, Bool.or_eq_true, decide_eq_false_iff_not, Bool.not_not, Bool.not_true, Bool.not_false, ↓reduceIte, wipeD, Bool.false_eq_true, reduceCtorEq, Nat.reduceSub, Nat.reduceAdd, and_true, true_and, List.isEmpty_cons, List.isEmpty_nil, not_true_eq_false, not_false_eq_true, or_false, or_true, true_or, false_or, and_false, false_and, Bool.true_or, Bool.false_or, Bool.or_true, Bool.or_false, Bool.true_and, Bool.and_true, Bool.false_and, Bool.and_false, bne_iff_ne, ne_eq, implies_true, List.append_nil, Int.cast_ofNat_Int, Int.reduceEq, Int.reduceLT, Int.reduceLE, Int.reduceAdd, Int.reduceSub, Int.reduceMul, Int.reduceNeg, Int.reduceToNat, decide_true, decide_false, Int.reduceMod, Int.reduceDiv, Nat.reduceMul, List.flatten_nil, List.flatten_cons])
local macro_rules | `(tactic| walk_at "t_x") => `(tactic| ((try (simp only [start_def]; simp only [List.map_cons, List.map_nil, List.length_cons, List.length_nil, Nat.reduceAdd, Nat.reduceSub, List.replicate, List.cons_append, List.nil_append])); try (walk_at "t_x1"; try walk_at "t_x1")))
section
variable {K : Fg} {ω : Om} {Φ : D → Om → Prop}
theorem kF : hasF cl_Hand "Hand" "kept" = true := by decide
theorem hw_Hand___init__ : ∀ ds ω Φ, W_Hand___init__ ds ω Φ → (b_Hand___init__ : BS K).w (startD 1 ds) ω ⟨fun _ ω => Φ .non ω, Φ, fun _ _ => False, fun _ _ => False, fun _ _ _ => False⟩ := by
  rintro ds ω Φ ⟨a, rfl, ha, h⟩
  unfold b_Hand___init__
  walk_at "t_x"
  intro p hp
  have hne : a ≠ p := fun e => by rw [e, hp] at ha; cases ha
  rw [Om.set_ne hne, ha]
  walk_at "t_x"
  exact ⟨kF, by simp, h p hp⟩
theorem valD_h {rs : List HRow} (nk : (rs.map (·.k)).Nodup) (k : List Nat) : (valD (hDk rs) (.inr (sOf k)) = none ∧ ∀ r ∈ rs, r.k ≠ k) ∨ ∃ r ∈ rs, r.k = k ∧ valD (hDk rs) (.inr (sOf k)) = some (.ref r.a) := by
  induction rs with
  | nil => exact .inl ⟨rfl, fun _ h => nomatch h⟩
  | cons r rs ih =>
    rw [List.map_cons, List.nodup_cons] at nk
    by_cases e : r.k = k
    · refine .inr ⟨r, List.mem_cons_self, e, ?_⟩
      unfold valD hDk
      rw [List.map_cons, List.find?_cons, e, decide_eq_true rfl]
      rfl
    · have ne : ((.inr (sOf r.k) : Key) = .inr (sOf k)) ↔ False := by
        constructor
        · intro z
          injection z with z
          exact e (by have := congrArg cs z; rwa [cs_sOf2, cs_sOf2] at this)
        · exact False.elim
      have step : valD (hDk (r :: rs)) (.inr (sOf k)) = valD (hDk rs) (.inr (sOf k)) := by
        unfold valD hDk
        rw [List.map_cons, List.find?_cons, decide_eq_false (by rw [ne]; exact id)]
      rw [step]
      rcases ih nk.2 with ⟨h1, h2⟩ | ⟨q, h1, h2, h3⟩
      · refine .inl ⟨h1, fun q hq => ?_⟩
        rcases List.mem_cons.mp hq with rfl | hq
        · exact e
        · exact h2 q hq
      · exact .inr ⟨q, List.mem_cons_of_mem _ h1, h2, h3⟩
theorem kL (d : D) : List.lookup ("kept" : Str) [(("kept" : Str), d)] = some d := by simp [List.lookup]
theorem eDk_keys (es : List (Int × Option (List Nat))) : (eDk es).map (fun p => kD p.1) = (es.map (·.1)).map D.int := by unfold eDk; rw [List.map_map, List.map_map]; rfl
theorem valD_e {es : List (Int × Option (List Nat))} (nd : (es.map (·.1)).Nodup) {p : Int × Option (List Nat)} (h : p ∈ es) : valD (eDk es) (.inl p.1) = some (vD p.2) := by
  refine valD_nodup ?_ (List.mem_map.mpr ⟨p, h, rfl⟩)
  have e : (eDk es).map (·.1) = (es.map (·.1)).map Sum.inl := by unfold eDk; rw [List.map_map, List.map_map]; rfl
  rw [e]
  exact List.Pairwise.map _ (fun a b hab z => hab (by injection z)) nd
theorem fil_int (s : Int) : ∀ l : List Int, (l.map D.int).filter (fun d => match d with | .int i => decide (i ≤ s) | _ => false) = (l.filter fun i => decide (i ≤ s)).map D.int
  | [] => rfl
  | i :: l => by
    rw [List.map_cons, List.filter_cons, List.filter_cons, fil_int s l]
    by_cases h : i ≤ s
    · simp [h]
    · simp [h]
theorem mem_hE {h : HSt} {e : Ent} : e ∈ hEnts h ↔ ∃ r ∈ h.rs, ∃ q ∈ r.es, e = (r.k, q.1, q.2) := by
  unfold hEnts
  rw [List.mem_flatten]
  constructor
  · rintro ⟨l, hl, he⟩
    obtain ⟨r, hr, rfl⟩ := List.mem_map.mp hl
    obtain ⟨q, hq, rfl⟩ := List.mem_map.mp he
    exact ⟨r, hr, q, hq, rfl⟩
  · rintro ⟨r, hr, q, hq, rfl⟩
    exact ⟨_, List.mem_map.mpr ⟨r, hr, rfl⟩, List.mem_map.mpr ⟨q, hq, rfl⟩⟩
theorem row_one : ∀ {rs : List HRow}, (rs.map (·.k)).Nodup → ∀ {r q : HRow}, r ∈ rs → q ∈ rs → r.k = q.k → r = q
  | x :: rs, nd, r, q, hr, hq, e => by
    rw [List.map_cons, List.nodup_cons] at nd
    rcases List.mem_cons.mp hr with e1 | h1 <;> rcases List.mem_cons.mp hq with e2 | h2
    · rw [e1, e2]
    · exact absurd (show x.k ∈ rs.map (·.k) from List.mem_map.mpr ⟨q, h2, by rw [← e, e1]⟩) nd.1
    · exact absurd (show x.k ∈ rs.map (·.k) from List.mem_map.mpr ⟨r, h1, by rw [e, e2]⟩) nd.1
    · exact row_one nd.2 h1 h2 e
theorem hw_Hand_find : ∀ ds ω Φ, W_Hand_find ds ω Φ → (b_Hand_find : BS K).w (startD 6 ds) ω ⟨fun _ ω => Φ .non ω, Φ, fun _ _ => False, fun _ _ => False, fun _ _ _ => False⟩ := by
  rintro ds ω Φ ⟨a, hs, k, s, rfl, hr, h⟩
  unfold b_Hand_find
  refine w_seq ?_
  walk_at "t_x"
  rw [hr.i]
  walk_at "t_x"
  refine ⟨kF, ?_⟩
  rw [kL]
  walk_at "t_x"
  rw [hr.d]
  walk_at "t_x"
  intro p hp
  have hdp : hs.d ≠ p := fun e => by have := hr.d; rw [e, hp] at this; cases this
  rw [Om.set_ne hdp, hr.d]
  walk_at "t_x"
  have tail : ∀ (t : Addr) (es : List (Int × Option (List Nat))) (ω1 : Om), ω1 t = some (.dk (eDk es)) → (es.map (·.1)).Nodup → es.length ≤ 1000000 → ((∀ q ∈ es, s < q.1) → Φ .non ω1) → (∀ q ∈ es, q.1 ≤ s → (∀ q' ∈ es, q'.1 ≤ s → q'.1 ≤ q.1) → Φ (.tup [.str k, .int q.1, vD q.2]) ω1) →
      (bsSeq (bsAsg (bCBK cMaxD (baC (bLock (bLc false (biKeysF (bVar 3)) (bgN 5) (btC (bOp (oLe) (bVar 5) (bVar 2))) (bVar 5) [5] mon_n (only_n (by decide)))) (baN)) (baC (bNon) baN)) (bgN 4)) (bsSeq (bsIf (btC (bOp (oIs false) (bVar 4) (bNon))) (bsRet (bNon)) (bsNext)) (bsRet (bTup (baC (bVar 1) (baC (bVar 4) (baC (bDget (bVar 3) (bVar 4)) (baN))))))) : BS K).w [some (.ref a), some (.str k), some (.int s), some (.ref t), none, none] ω1 ⟨fun _ ω => Φ .non ω, Φ, fun _ _ => False, fun _ _ => False, fun _ _ _ => False⟩ := by
    intro t es ω1 ht nd hz h0 h1
    refine w_seq ?_
    walk_at "t_x"
    refine w_lock ht fun o xs => ?_
    walk_at "t_x"
    rw [eDk_keys]
    refine lc_filter1 (fun d => match d with | .int i => decide (i ≤ s) | _ => false) id _ _ (by rw [sizeLine_eq]; simp; omega) Om.set_same (fun d hd Q hq => ?_) (fun d hd _ Q hq => ?_) ?_
    · obtain ⟨x, hx, rfl⟩ := List.mem_map.mp hd
      walk_at "t_x"
      exact hq
    · obtain ⟨x, hx, rfl⟩ := List.mem_map.mp hd
      walk_at "t_x"
      exact hq
    rw [List.nil_append, List.map_id, fil_int]
    refine ⟨Om.set_same, ?_⟩
    rw [Om.set_set, Om.set_self ht, intsOf_map]
    walk_at "t_x"
    refine ⟨fun z => ?_, fun m hm hx => ?_⟩
    · refine w_seq (w_sifB true (fun F hF => ?_) (iteT ?_))
      · walk_at "t_x"
        exact hF
      · walk_at "t_x"
        refine h0 fun q hq => ?_
        rw [List.filter_eq_nil_iff] at z
        have := z q.1 (List.mem_map.mpr ⟨q, hq, rfl⟩)
        simp at this
        exact this
    · obtain ⟨hm1, hm2⟩ := List.mem_filter.mp hm
      obtain ⟨q, hq, rfl⟩ := List.mem_map.mp hm1
      have hm2 : q.1 ≤ s := of_decide_eq_true hm2
      refine w_seq (w_sifB false (fun F hF => ?_) (iteF (w_next ?_)))
      · walk_at "t_x"
        exact hF
      · walk_at "t_x"
        rw [ht]
        walk_at "t_x"
        rw [valD_e nd hq]
        walk_at "t_x"
        exact h1 q hq hm2 fun q' hq' h' => hx q'.1 (List.mem_filter.mpr ⟨List.mem_map.mpr ⟨q', hq', rfl⟩, decide_eq_true h'⟩)
  rcases valD_h hr.nk k with ⟨v, no⟩ | ⟨r, hrm, rk, v⟩
  · rw [v]
    refine tail p [] _ Om.set_same List.nodup_nil (by simp) (fun _ => ?_) (fun q hq => nomatch hq)
    refine h _ none (Grow.set hp) ⟨fun _ e he hk => ?_, fun m e => nomatch e⟩
    obtain ⟨r, hrm, q, _, rfl⟩ := mem_hE.mp he
    exact absurd hk (no r hrm)
  · rw [v]
    have hra := hr.r r hrm
    have hne : r.a ≠ p := fun e => by rw [e, hp] at hra; cases hra
    have own : ∀ e ∈ hEnts hs, e.1 = k → ∃ q ∈ r.es, e = (k, q.1, q.2) := fun e he hk => by
      obtain ⟨r', hr', q, hq, rfl⟩ := mem_hE.mp he
      have : r' = r := row_one hr.nk hr' hrm (Eq.trans hk rk.symm)
      subst this
      exact ⟨q, hq, by rw [rk]⟩
    refine tail r.a r.es _ (by rw [Om.set_ne hne]; exact hra) (hr.ns r hrm).1 (hr.z.2 r hrm) (fun h0 => ?_) (fun q hq hs1 hmax => ?_)
    · refine h _ none (Grow.set hp) ⟨fun _ e he hk => ?_, fun m e => nomatch e⟩
      obtain ⟨q, hq, rfl⟩ := own e he hk
      exact h0 q hq
    · refine h _ (some (k, q.1, q.2)) (Grow.set hp) ⟨fun z => (nomatch z), fun m e => ?_⟩
      cases e
      refine ⟨mem_hE.mpr ⟨r, hrm, q, hq, by rw [rk]⟩, rfl, hs1, fun e he hk hs2 => ?_⟩
      obtain ⟨q', hq', rfl⟩ := own e he hk
      exact hmax q' hq' hs2
theorem vals_h (rs : List HRow) : (hDk rs).map (fun p => p.2) = rs.map fun r => D.ref r.a := by unfold hDk; rw [List.map_map]; rfl
end
section
variable {K : Fg} {ω : Om} {Φ : D → Om → Prop}
def IsMx (r : HRow) (m : Int) : Prop := m ∈ r.es.map (·.1) ∧ ∀ y ∈ r.es.map (·.1), y ≤ m
theorem hw_Hand_greatest : ∀ ds ω Φ, W_Hand_greatest ds ω Φ → (b_Hand_greatest : BS K).w (startD 2 ds) ω ⟨fun _ ω => Φ .non ω, Φ, fun _ _ => False, fun _ _ => False, fun _ _ _ => False⟩ := by
  rintro ds ω Φ ⟨a, hs, rfl, hr, h⟩
  unfold b_Hand_greatest
  walk_at "t_x"
  refine w_lock hr.d fun o xs => ?_
  have hda : a ≠ hs.d := fun e => by have := hr.i; rw [e, hr.d] at this; cases this
  walk_at "t_x"
  rw [hr.i]
  walk_at "t_x"
  refine ⟨kF, ?_⟩
  rw [kL]
  walk_at "t_x"
  rw [vals_h]
  have hz := hr.z.1
  refine lc_go (fun i acc ω2 => ω2 = ω.set hs.d (.fk o xs (hDk hs.rs)) ∧ ∃ ms : List Int, acc = ms.map .int ∧ ms.length = i ∧ (∀ m ∈ ms, ∃ r ∈ hs.rs, IsMx r m) ∧ ∀ r ∈ hs.rs.take i, ∃ m ∈ ms, IsMx r m) ?_ ?_ ⟨rfl, [], rfl, rfl, by simp, by simp⟩
  · rintro j d acc _ N2 hd2 ⟨rfl, ms, rfl, hl, h1, h2⟩ hN2
    refine ⟨Om.set_same, ?_⟩
    rw [List.getElem?_map, Option.map_eq_some_iff] at hd2
    obtain ⟨r, hj, rfl⟩ := hd2
    have hrm := List.mem_of_getElem? hj
    have hjl := (List.getElem?_eq_some_iff.mp hj).1
    have hra : r.a ≠ hs.d := fun e => (List.nodup_cons.mp hr.nd).1 (List.mem_map.mpr ⟨r, hrm, e⟩)
    walk_at "t_x"
    rw [hr.r r hrm]
    walk_at "t_x"
    rw [eDk_keys, intsOf_map]
    walk_at "t_x"
    have hne := (hr.ns r hrm).2
    rw [x_need (by simpa using hne)]
    intro m hm hx
    refine ⟨by rw [sizeLine_eq]; simp; omega, ?_⟩
    refine hN2 _ _ ⟨rfl, ms ++ [m], by simp, by simp [hl], fun m' hm' => ?_, fun r' hr' => ?_⟩
    · rcases List.mem_append.mp hm' with hm' | hm'
      · exact h1 m' hm'
      · rw [List.mem_singleton.mp hm']; exact ⟨r, hrm, hm, hx⟩
    · rw [List.take_succ, hj] at hr'
      rcases List.mem_append.mp hr' with hr' | hr'
      · obtain ⟨m', q1, q2⟩ := h2 r' hr'
        exact ⟨m', List.mem_append_left _ q1, q2⟩
      · rw [show r' = r by simpa using hr']
        exact ⟨m, by simp, hm, hx⟩
  · rintro acc _ ⟨rfl, ms, rfl, hl, h1, h2⟩
    rw [List.length_map, List.take_length] at h2
    rw [List.length_map] at hl
    refine ⟨Om.set_same, Om.set_same, ?_⟩
    rw [Om.set_set, Om.set_self hr.d, intsOf_map]
    have emp : ms = [] → hEnts hs = [] := fun z => by
      have : hs.rs = [] := List.length_eq_zero_iff.mp (by rw [← hl, z]; rfl)
      unfold hEnts; rw [this]; rfl
    have ub : ∀ m : Int, (∀ y ∈ ms, y ≤ m) → ∀ e ∈ hEnts hs, e.2.1 ≤ m := fun m hm e he => by
      obtain ⟨r, hrm, q, hq, rfl⟩ := mem_hE.mp he
      obtain ⟨m', q1, q2⟩ := h2 r hrm
      have h3 := q2.2 q.1 (List.mem_map.mpr ⟨q, hq, rfl⟩)
      have h4 := hm m' q1
      show q.1 ≤ m
      omega
    walk_at "t_x"
    refine ⟨fun z => ?_, fun m hm hx => ?_⟩
    · have e0 := emp z
      exact h 0 (fun _ => rfl) (fun n => absurd e0 n) (fun e he => by rw [e0] at he; cases he)
    · obtain ⟨r, hrm, q1, q2⟩ := h1 m hm
      obtain ⟨q, hq, e⟩ := List.mem_map.mp q1
      have he : ((r.k, q.1, q.2) : Ent) ∈ hEnts hs := mem_hE.mpr ⟨r, hrm, q, hq, rfl⟩
      exact h m (fun z => by rw [z] at he; cases he) (fun _ => ⟨_, he, e⟩) (ub m hx)
end
section
variable {K : Fg} {ω : Om} {Φ : D → Om → Prop}
abbrev HEs := List (Int × Option (List Nat))
def putI (es : HEs) (s : Int) (v : Option (List Nat)) : HEs := if (es.any fun p => decide (p.1 = s)) = true then es.map (fun p => if p.1 = s then (p.1, v) else p) else es ++ [(s, v)]
theorem eDk_put (es : HEs) (s : Int) (v : Option (List Nat)) : putD (eDk es) (.inl s) (vD v) = eDk (putI es s v) := by
  have e1 : ((eDk es).any fun p => decide (p.1 = .inl s)) = es.any fun p => decide (p.1 = s) := by
    unfold eDk
    rw [List.any_map]
    congr 1
    funext p
    show decide ((Sum.inl p.1 : Key) = .inl s) = _
    rw [decide_eq_decide]
    exact ⟨fun z => by injection z, fun z => by rw [z]⟩
  unfold putD putI
  rw [e1]
  split
  · unfold eDk
    rw [List.map_map, List.map_map]
    refine List.map_congr_left fun p _ => ?_
    show (if (Sum.inl p.1 : Key) = .inl s then ((Sum.inl p.1 : Key), vD v) else (Sum.inl p.1, vD p.2)) = ((Sum.inl (if p.1 = s then (p.1, v) else p).1 : Key), vD (if p.1 = s then (p.1, v) else p).2)
    by_cases z : p.1 = s
    · rw [if_pos z, if_pos (by rw [z])]
    · rw [if_neg z, if_neg (fun y => z (by injection y))]
  · unfold eDk
    rw [List.map_append]; rfl
theorem map_off {es : HEs} {s : Int} {v : Option (List Nat)} (h : s ∉ es.map (·.1)) : es.map (fun p => if p.1 = s then (p.1, v) else p) = es := by
  rw [List.map_congr_left (g := id) fun p hp => ?_, List.map_id]
  show (if p.1 = s then (p.1, v) else p) = p
  rw [if_neg fun z => h (List.mem_map.mpr ⟨p, hp, z⟩)]
theorem fil_off {es : HEs} {s : Int} (h : s ∉ es.map (·.1)) : (es.filter fun p => !decide (p.1 = s)) = es := by
  rw [List.filter_eq_self]
  intro p hp
  rw [decide_eq_false fun z => h (List.mem_map.mpr ⟨p, hp, z⟩)]; rfl
theorem any_mem {es : HEs} {s : Int} : (es.any fun p => decide (p.1 = s)) = true ↔ s ∈ es.map (·.1) := by
  rw [List.any_eq_true, List.mem_map]
  exact ⟨fun ⟨p, h1, h2⟩ => ⟨p, h1, of_decide_eq_true h2⟩, fun ⟨p, h1, h2⟩ => ⟨p, h1, decide_eq_true h2⟩⟩
theorem putI_perm {s : Int} {v : Option (List Nat)} : ∀ {es : HEs}, (es.map (·.1)).Nodup → (putI es s v).Perm ((es.filter fun p => !decide (p.1 = s)) ++ [(s, v)])
  | [], _ => .refl _
  | p :: es, nd => by
    rw [List.map_cons, List.nodup_cons] at nd
    by_cases e : p.1 = s
    · have hs : s ∉ es.map (·.1) := e ▸ nd.1
      unfold putI
      rw [if_pos (any_mem.mpr (by simp [e])), List.map_cons, map_off hs, if_pos e, List.filter_cons, if_neg (by simp [e]), fil_off hs, e]
      exact (List.perm_append_comm (l₁ := es) (l₂ := [(s, v)])).symm
    · have ih := putI_perm (s := s) (v := v) nd.2
      have st : putI (p :: es) s v = p :: putI es s v := by
        unfold putI
        have : ((p :: es).any fun p => decide (p.1 = s)) = es.any fun p => decide (p.1 = s) := by rw [List.any_cons, decide_eq_false e, Bool.false_or]
        rw [this]
        split
        · rw [List.map_cons, if_neg e]
        · rfl
      rw [st, List.filter_cons, if_pos (by simp [e]), List.cons_append]
      exact ih.cons p
theorem putI_keys {es : HEs} {s : Int} {v : Option (List Nat)} (nd : (es.map (·.1)).Nodup) : ((putI es s v).map (·.1)).Nodup := by
  unfold putI
  split
  · rw [List.map_map, List.map_congr_left (g := (·.1)) fun p _ => ?_]
    · exact nd
    · show (if p.1 = s then (p.1, v) else p).1 = p.1
      split <;> rfl
  · rename_i h
    rw [List.map_append, List.nodup_append]
    refine ⟨nd, by simp, fun a ha b hb => ?_⟩
    rw [show b = s by simpa using hb]
    exact fun z => h (any_mem.mpr (z ▸ ha))
theorem putI_len (es : HEs) (s : Int) (v : Option (List Nat)) : (putI es s v).length ≤ es.length + 1 ∧ putI es s v ≠ [] := by
  unfold putI
  split
  · rename_i h
    refine ⟨by rw [List.length_map]; omega, fun z => ?_⟩
    rw [List.map_eq_nil_iff] at z
    rw [z] at h; cases h
  · exact ⟨by simp, by simp⟩
def rEnts (r : HRow) : List Ent := r.es.map fun p => ((r.k, p.1, p.2) : Ent)
theorem hE_cons (d : Addr) (r : HRow) (rs : List HRow) : hEnts ⟨d, r :: rs⟩ = rEnts r ++ hEnts ⟨d, rs⟩ := by unfold hEnts rEnts; simp
def notE (e : Ent) (x : Ent) : Bool := !decide (x.1 = e.1 ∧ x.2.1 = e.2.1)
theorem rE_off {r : HRow} {e : Ent} (h : r.k ≠ e.1) : (rEnts r).filter (notE e) = rEnts r := by
  rw [List.filter_eq_self]
  intro x hx
  obtain ⟨p, _, rfl⟩ := List.mem_map.mp hx
  unfold notE
  rw [decide_eq_false (fun z => h z.1)]; rfl
theorem hE_off {d : Addr} {rs : List HRow} {e : Ent} (h : e.1 ∉ rs.map (·.k)) : (hEnts ⟨d, rs⟩).filter (notE e) = hEnts ⟨d, rs⟩ := by
  rw [List.filter_eq_self]
  intro x hx
  obtain ⟨r, hr, q, _, rfl⟩ := mem_hE.mp hx
  unfold notE
  rw [decide_eq_false (fun z => h (List.mem_map.mpr ⟨r, hr, z.1⟩))]; rfl
def putR (k : List Nat) (s : Int) (v : Option (List Nat)) (r : HRow) : HRow := if r.k = k then ⟨r.k, r.a, putI r.es s v⟩ else r
theorem rE_put {r : HRow} {e : Ent} (h : r.k = e.1) (nd : (r.es.map (·.1)).Nodup) : (rEnts (putR e.1 e.2.1 e.2.2 r)).Perm ((rEnts r).filter (notE e) ++ [e]) := by
  unfold putR
  rw [if_pos h]
  have p := (putI_perm (s := e.2.1) (v := e.2.2) nd).map fun p => ((r.k, p.1, p.2) : Ent)
  rw [List.map_append] at p
  have e1 : (rEnts r).filter (notE e) = (r.es.filter fun p => !decide (p.1 = e.2.1)).map fun p => ((r.k, p.1, p.2) : Ent) := by
    unfold rEnts
    rw [List.filter_map]
    congr 1
    refine List.filter_congr fun p _ => ?_
    show notE e (r.k, p.1, p.2) = _
    unfold notE
    congr 1
    rw [decide_eq_decide]
    exact ⟨fun z => z.2, fun z => ⟨h, z⟩⟩
  rw [e1]
  have e2 : ([(e.2.1, e.2.2)] : HEs).map (fun p => ((r.k, p.1, p.2) : Ent)) = [e] := by rw [h]; rfl
  rw [e2] at p
  exact p
theorem hE_put {d : Addr} {e : Ent} : ∀ {rs : List HRow}, (rs.map (·.k)).Nodup → (∀ r ∈ rs, (r.es.map (·.1)).Nodup) → e.1 ∈ rs.map (·.k) → (hEnts ⟨d, rs.map (putR e.1 e.2.1 e.2.2)⟩).Perm ((hEnts ⟨d, rs⟩).filter (notE e) ++ [e])
  | [], _, _, h => nomatch h
  | r :: rs, nd, ns, h => by
    rw [List.map_cons, List.nodup_cons] at nd
    rw [List.map_cons, hE_cons, hE_cons, List.filter_append]
    by_cases c : r.k = e.1
    · have ho : e.1 ∉ rs.map (·.k) := c ▸ nd.1
      have e1 : rs.map (putR e.1 e.2.1 e.2.2) = rs := by
        rw [List.map_congr_left (g := id) fun q hq => ?_, List.map_id]
        unfold putR
        rw [if_neg fun z => ho (List.mem_map.mpr ⟨q, hq, z⟩)]; rfl
      rw [e1, hE_off ho]
      have p := rE_put c (ns r List.mem_cons_self)
      refine (p.append_right _).trans ?_
      rw [List.append_assoc, List.append_assoc]
      exact List.Perm.append_left _ List.perm_append_comm
    · have hm : e.1 ∈ rs.map (·.k) := by
        rcases List.mem_cons.mp h with z | z
        · exact absurd z.symm c
        · exact z
      have ih := hE_put (d := d) nd.2 (fun q hq => ns q (List.mem_cons_of_mem _ hq)) hm
      have e1 : putR e.1 e.2.1 e.2.2 r = r := by unfold putR; rw [if_neg c]
      rw [e1, rE_off c, List.append_assoc]
      exact ih.append_left _
theorem adr_one : ∀ {rs : List HRow}, (rs.map (·.a)).Nodup → ∀ {r q : HRow}, r ∈ rs → q ∈ rs → r.a = q.a → r = q
  | x :: rs, nd, r, q, hr, hq, e => by
    rw [List.map_cons, List.nodup_cons] at nd
    rcases List.mem_cons.mp hr with e1 | h1 <;> rcases List.mem_cons.mp hq with e2 | h2
    · rw [e1, e2]
    · exact absurd (show x.a ∈ rs.map (·.a) from List.mem_map.mpr ⟨q, h2, by rw [← e, e1]⟩) nd.1
    · exact absurd (show x.a ∈ rs.map (·.a) from List.mem_map.mpr ⟨r, h1, by rw [e, e2]⟩) nd.1
    · exact adr_one nd.2 h1 h2 e
theorem putR_k (k : List Nat) (s : Int) (v : Option (List Nat)) (r : HRow) : (putR k s v r).k = r.k ∧ (putR k s v r).a = r.a := by
  unfold putR; split <;> exact ⟨rfl, rfl⟩
theorem hDk_app (as bs : List HRow) : hDk (as ++ bs) = hDk as ++ hDk bs := by unfold hDk; rw [List.map_append]
theorem hE_app (d : Addr) (as bs : List HRow) : hEnts ⟨d, as ++ bs⟩ = hEnts ⟨d, as⟩ ++ hEnts ⟨d, bs⟩ := by unfold hEnts; simp
theorem hw_Hand_put : ∀ ds ω Φ, W_Hand_put ds ω Φ → (b_Hand_put : BS K).w (startD 4 ds) ω ⟨fun _ ω => Φ .non ω, Φ, fun _ _ => False, fun _ _ => False, fun _ _ _ => False⟩ := by
  rintro ds ω Φ ⟨a, hs, e, rfl, hr, z1, z2, h⟩
  unfold b_Hand_put
  walk_at "t_x"
  rw [hr.i]
  walk_at "t_x"
  refine ⟨kF, ?_⟩
  rw [kL]
  walk_at "t_x"
  rw [hr.d]
  walk_at "t_x"
  intro p hp
  have hdp : hs.d ≠ p := fun e => by have := hr.d; rw [e, hp] at this; cases this
  have hap : a ≠ p := fun e => by have := hr.i; rw [e, hp] at this; cases this
  have hda : a ≠ hs.d := fun e => by have := hr.i; rw [e, hr.d] at this; cases this
  rw [Om.set_ne hdp, hr.d]
  walk_at "t_x"
  have zl : (hDk hs.rs).length = hs.rs.length := by unfold hDk; rw [List.length_map]
  rw [x_need (by omega)]
  have nd2 := List.nodup_cons.mp hr.nd
  have rd : ∀ q ∈ hs.rs, q.a ≠ hs.d := fun q hq z => nd2.1 (List.mem_map.mpr ⟨q, hq, z⟩)
  have rp : ∀ q ∈ hs.rs, q.a ≠ p := fun q hq z => by have := hr.r q hq; rw [z, hp] at this; cases this
  have ra : ∀ q ∈ hs.rs, a ≠ q.a := fun q hq z => by have := hr.i; rw [z, hr.r q hq] at this; cases this
  rcases valD_h hr.nk e.1 with ⟨v, no⟩ | ⟨r, hrm, rk, v⟩
  · simp only [v]
    rw [Om.set_ne (Ne.symm hdp), Om.set_same]
    walk_at "t_x"
    have nk1 : e.1 ∉ hs.rs.map (·.k) := fun z => by
      obtain ⟨q, hq, e1⟩ := List.mem_map.mp z
      exact no q hq e1
    have kn : (Sum.inr (sOf e.1) : Key) ∉ (hDk hs.rs).map (·.1) := fun z => by
      have := valD_none.mp v
      exact this z
    rw [putD_new kn]
    have e0 : putD ([] : List (Key × D)) (.inl e.2.1) (vD e.2.2) = eDk [(e.2.1, e.2.2)] := rfl
    rw [e0]
    refine h _ ⟨hs.d, hs.rs ++ [⟨e.1, p, [(e.2.1, e.2.2)]⟩]⟩ ⟨?_, ?_, fun q hq => ?_, ?_, ?_, fun q hq => ?_, ?_, fun q hq => ?_⟩ ?_ (by simp) (fun n hn q hq => ?_) (fun b hb => ?_) (fun b hb hn => ?_)
    · rw [Om.set_ne hap, Om.set_ne hda, Om.set_ne hap]; exact hr.i
    · rw [Om.set_ne hdp, Om.set_same, hDk_app]; rfl
    · rcases List.mem_append.mp hq with hq | hq
      · rw [Om.set_ne (rp q hq), Om.set_ne (rd q hq), Om.set_ne (rp q hq)]; exact hr.r q hq
      · rw [List.mem_singleton.mp hq]; exact Om.set_same
    · rw [List.map_append, ← List.cons_append, List.nodup_append]
      refine ⟨hr.nd, by simp, fun x hx y hy => ?_⟩
      rw [show y = p by simpa using hy]
      rcases List.mem_cons.mp hx with rfl | hx
      · exact hdp
      · obtain ⟨q, hq, rfl⟩ := List.mem_map.mp hx
        exact rp q hq
    · rw [List.map_append, List.nodup_append]
      refine ⟨hr.nk, by simp, fun x hx y hy z => nk1 ?_⟩
      rw [show y = e.1 by simpa using hy] at z
      exact z ▸ hx
    · rcases List.mem_append.mp hq with hq | hq
      · exact hr.ns q hq
      · rw [List.mem_singleton.mp hq]; exact ⟨by simp, by simp⟩
    · simp; omega
    · rcases List.mem_append.mp hq with hq | hq
      · have := z2 q hq; omega
      · rw [List.mem_singleton.mp hq]; simp
    · rw [hE_app]
      have e1 : hEnts ⟨hs.d, [⟨e.1, p, [(e.2.1, e.2.2)]⟩]⟩ = [e] := rfl
      have e2 : putE (hEnts hs) e = (hEnts ⟨hs.d, hs.rs⟩).filter (notE e) ++ [e] := rfl
      rw [e1, e2, hE_off nk1]
    · rcases List.mem_append.mp hq with hq | hq
      · have := hn q hq; omega
      · rw [List.mem_singleton.mp hq]; simp
    · rcases hb with rfl | rfl | ⟨q, hq, rfl⟩
      · exact .inl (.inl rfl)
      · exact .inl (.inr (.inl rfl))
      · rcases List.mem_append.mp hq with hq | hq
        · exact .inl (.inr (.inr ⟨q, hq, rfl⟩))
        · rw [List.mem_singleton.mp hq]; exact .inr hp
    · have n1 : b ≠ p := fun z => hn (by rw [z]; exact hp)
      have n2 : b ≠ hs.d := fun z => hb (.inr (.inl z))
      rw [Om.set_ne n1, Om.set_ne n2, Om.set_ne n1]
  · simp only [v]
    walk_at "t_x"
    rw [Om.set_ne (rp r hrm), hr.r r hrm]
    walk_at "t_x"
    have el : (eDk r.es).length = r.es.length := by unfold eDk; rw [List.length_map]
    have := z2 r hrm
    rw [x_need (by omega), eDk_put]
    have kk : e.1 ∈ hs.rs.map (·.k) := List.mem_map.mpr ⟨r, hrm, rk⟩
    have hk : hDk (hs.rs.map (putR e.1 e.2.1 e.2.2)) = hDk hs.rs := by
      unfold hDk
      rw [List.map_map]
      refine List.map_congr_left fun q _ => ?_
      show ((Sum.inr (sOf (putR e.1 e.2.1 e.2.2 q).k) : Key), D.ref (putR e.1 e.2.1 e.2.2 q).a) = _
      rw [(putR_k _ _ _ q).1, (putR_k _ _ _ q).2]
    have ha2 : (hs.rs.map (putR e.1 e.2.1 e.2.2)).map (·.a) = hs.rs.map (·.a) := by
      rw [List.map_map]
      exact List.map_congr_left fun q _ => (putR_k _ _ _ q).2
    have hk2 : (hs.rs.map (putR e.1 e.2.1 e.2.2)).map (·.k) = hs.rs.map (·.k) := by
      rw [List.map_map]
      exact List.map_congr_left fun q _ => (putR_k _ _ _ q).1
    refine h _ ⟨hs.d, hs.rs.map (putR e.1 e.2.1 e.2.2)⟩ ⟨?_, ?_, fun q' hq' => ?_, ?_, ?_, fun q' hq' => ?_, ?_, fun q' hq' => ?_⟩ ?_ (by simp) (fun n hn q' hq' => ?_) (fun b hb => ?_) (fun b hb hn => ?_)
    · rw [Om.set_ne (ra r hrm), Om.set_ne hap]; exact hr.i
    · rw [Om.set_ne (Ne.symm (rd r hrm)), Om.set_ne hdp, hk]; exact hr.d
    · obtain ⟨q, hq, rfl⟩ := List.mem_map.mp hq'
      rw [(putR_k _ _ _ q).2]
      by_cases c : q.k = e.1
      · have : q = r := row_one hr.nk hq hrm (c.trans rk.symm)
        subst this
        rw [Om.set_same]
        unfold putR
        rw [if_pos c]
      · have hne : q.a ≠ r.a := fun z => c (by rw [adr_one nd2.2 hq hrm z]; exact rk)
        rw [Om.set_ne hne, Om.set_ne (rp q hq)]
        unfold putR
        rw [if_neg c]
        exact hr.r q hq
    · rw [ha2]; exact hr.nd
    · rw [hk2]; exact hr.nk
    · obtain ⟨q, hq, rfl⟩ := List.mem_map.mp hq'
      unfold putR
      split
      · exact ⟨putI_keys (hr.ns q hq).1, (putI_len _ _ _).2⟩
      · exact hr.ns q hq
    · rw [List.length_map]; exact hr.z.1
    · obtain ⟨q, hq, rfl⟩ := List.mem_map.mp hq'
      unfold putR
      have := z2 q hq
      split
      · have := (putI_len q.es e.2.1 e.2.2).1
        show (putI q.es e.2.1 e.2.2).length ≤ _
        omega
      · omega
    · exact hE_put hr.nk (fun q hq => (hr.ns q hq).1) kk
    · obtain ⟨q, hq, rfl⟩ := List.mem_map.mp hq'
      unfold putR
      have := hn q hq
      split
      · have := (putI_len q.es e.2.1 e.2.2).1
        show (putI q.es e.2.1 e.2.2).length ≤ _
        omega
      · omega
    · rcases hb with rfl | rfl | ⟨q', hq', rfl⟩
      · exact .inl (.inl rfl)
      · exact .inl (.inr (.inl rfl))
      · obtain ⟨q, hq, rfl⟩ := List.mem_map.mp hq'
        exact .inl (.inr (.inr ⟨q, hq, (putR_k _ _ _ q).2⟩))
    · have n1 : b ≠ p := fun z => hn (by rw [z]; exact hp)
      have n2 : b ≠ r.a := fun z => hb (.inr (.inr ⟨r, hrm, z⟩))
      rw [Om.set_ne n2, Om.set_ne n1]
end
section
variable {K : Fg} {ω : Om} {Φ : D → Om → Prop}
def pDh (p : Int × Option (List Nat)) : D := .tup [.int p.1, vD p.2]
theorem perm_lift {α β : Type} (f : α → β) {l m : List β} (h : l.Perm m) : ∀ rs : List α, rs.map f = m → ∃ rs' : List α, rs'.Perm rs ∧ rs'.map f = l := by
  induction h with
  | nil => intro rs e; exact ⟨rs, .refl _, e⟩
  | cons x _ ih =>
    intro rs e
    cases rs with
    | nil => cases e
    | cons r rs =>
      rw [List.map_cons] at e
      injection e with e1 e2
      obtain ⟨rs', p, q⟩ := ih rs e2
      exact ⟨r :: rs', p.cons r, by rw [List.map_cons, q, e1]⟩
  | swap x y l =>
    intro rs e
    match rs, e with
    | a :: b :: rs, e =>
      rw [List.map_cons, List.map_cons] at e
      injection e with e1 e2
      injection e2 with e2 e3
      exact ⟨b :: a :: rs, List.Perm.swap a b rs, by rw [List.map_cons, List.map_cons, e1, e2, e3]⟩
    | [_], e => cases e
    | [], e => cases e
  | trans _ _ ih1 ih2 =>
    intro rs e
    obtain ⟨r2, p2, q2⟩ := ih2 rs e
    obtain ⟨r1, p1, q1⟩ := ih1 r2 q2
    exact ⟨r1, p1.trans p2, q1⟩
theorem sort_desc {kw : KW} {ρ : En} {es : HEs} {F : List D → Prop} (nd : (es.map (·.1)).Nodup) (hk : ∀ p ∈ es, ∀ Φ' : D → Om → Prop, Φ' (.int p.1) ω → kw ρ (pDh p) ω Φ') (h : ∀ es' : HEs, es'.Perm es → (es'.Pairwise fun a b => b.1 < a.1) → F (es'.map pDh)) : sortW true kw ρ (es.map pDh) ω F := by
  let k : D → D := fun d => match d with
    | .tup [.int i, _] => .int i
    | _ => .non
  refine ⟨k, fun d hd => ?_, fun d hd e he => ?_, .inr fun d hd xs => ?_, ?_⟩
  · obtain ⟨p, hp, rfl⟩ := List.mem_map.mp hd
    exact ⟨keyOk_int _, fun Φ' q => hk p hp Φ' q⟩
  · obtain ⟨a, ha, rfl⟩ := List.mem_map.mp hd
    obtain ⟨b, hb, rfl⟩ := List.mem_map.mp he
    exact alk_int _ _
  · obtain ⟨a, ha, rfl⟩ := List.mem_map.mp hd
    exact fun z => nomatch z
  have ek : ∀ a b : Int × Option (List Nat), leK true k (pDh a) (pDh b) = !decide (a.1 < b.1) := fun a b => by
    rw [leK_eq, if_pos rfl]
    show (!dlt (.int a.1) (.int b.1)) = _
    rw [dlt_int]
  obtain ⟨rs, e, p, pw⟩ : ∃ rs : HEs, (es.map pDh).mergeSort (leK true k) = rs.map pDh ∧ rs.Perm es ∧ rs.Pairwise fun (a b : Int × Option (List Nat)) => (!decide (a.1 < b.1)) = true := by
    refine ⟨es.mergeSort fun (a b : Int × Option (List Nat)) => !decide (a.1 < b.1), ?_, List.mergeSort_perm _ _, List.pairwise_mergeSort (le := fun (a b : Int × Option (List Nat)) => !decide (a.1 < b.1)) (fun a b c h1 h2 => ?_) (fun a b => ?_) es⟩
    rotate_left
    · simp only [Bool.not_eq_true', decide_eq_false_iff_not] at h1 h2 ⊢
      omega
    · by_cases q : a.1 < b.1
      · rw [decide_eq_false (show ¬ b.1 < a.1 by omega)]; simp
      · rw [decide_eq_false q]; rfl
    exact (List.map_mergeSort (r := fun (a b : Int × Option (List Nat)) => !decide (a.1 < b.1)) (s := leK true k) (f := pDh) (l := es) fun a _ b _ => (ek a b).symm).symm
  rw [e]
  have nd2 : (rs.map (·.1)).Nodup := (p.map (·.1)).nodup_iff.mpr nd
  refine h rs p ?_
  have nd3 := List.pairwise_map.mp nd2
  have : ∀ {l : HEs}, l.Pairwise (fun a b => (!decide (a.1 < b.1)) = true) → l.Pairwise (fun a b => a.1 ≠ b.1) → l.Pairwise fun a b => b.1 < a.1 := by
    intro l h1 h2
    induction h1 with
    | nil => exact .nil
    | cons hx _ ih =>
      obtain ⟨y1, y2⟩ := List.pairwise_cons.mp h2
      refine List.pairwise_cons.mpr ⟨fun b hb => ?_, ih y2⟩
      have q1 := hx b hb
      have q2 := y1 b hb
      simp only [Bool.not_eq_true', decide_eq_false_iff_not] at q1
      omega
  exact this pw nd3
theorem items_e (es : HEs) : (eDk es).map (fun p => D.tup [kD p.1, p.2]) = es.map pDh := by unfold eDk; rw [List.map_map]; rfl
theorem keys_h (rs : List HRow) : (hDk rs).map (fun p => kD p.1) = (rs.map (·.k)).map D.str := by
  unfold hDk
  rw [List.map_map, List.map_map]
  refine List.map_congr_left fun r _ => ?_
  show D.str (cs (sOf r.k)) = D.str r.k
  rw [cs_sOf2]
theorem hw_Hand_rows : ∀ ds ω Φ, W_Hand_rows ds ω Φ → (b_Hand_rows : BS K).w (startD 5 ds) ω ⟨fun _ ω => Φ .non ω, Φ, fun _ _ => False, fun _ _ => False, fun _ _ _ => False⟩ := by
  rintro ds ω Φ ⟨a, hs, rfl, hr, h64, hz, h⟩
  unfold b_Hand_rows
  refine w_seq ?_
  walk_at "t_x"
  intro r0 hr0
  have har : a ≠ r0 := fun e => by have := hr.i; rw [e, hr0] at this; cases this
  have hdr : hs.d ≠ r0 := fun e => by have := hr.d; rw [e, hr0] at this; cases this
  have hqr : ∀ q ∈ hs.rs, q.a ≠ r0 := fun q hq e => by have := hr.r q hq; rw [e, hr0] at this; cases this
  refine w_cut (fun ρ1 ω1 => ∃ (L : List Ent) (x2 x3 x4 : Option D), HRows hs L ∧ ω1 = ω.set r0 (.lst (L.map eD)) ∧ ρ1 = [some (.ref a), some (.ref r0), x2, x3, x4]) (fun N hN => ?_) ?_
  · walk_at "t_x"
    rw [hr.i]
    walk_at "t_x"
    refine ⟨kF, ?_⟩
    rw [kL]
    walk_at "t_x"
    rw [hr.d]
    walk_at "t_x"
    rw [keys_h]
    walk_at "t_x"
    intro l pm pw
    obtain ⟨rs', pr, el⟩ := perm_lift (fun r : HRow => r.k) pm hs.rs rfl
    subst el
    have ndk : (rs'.map (·.k)).Nodup := (pr.map (·.k)).nodup_iff.mpr hr.nk
    have ord : rs'.Pairwise fun x y => ltS x.k y.k = true := by
      have h1 := List.pairwise_map.mp pw
      have h2 := List.pairwise_map.mp ndk
      have : ∀ {l : List HRow}, l.Pairwise (fun x y => ltS y.k x.k = false) → l.Pairwise (fun x y => x.k ≠ y.k) → l.Pairwise fun x y => ltS x.k y.k = true := by
        intro l h1 h2
        induction h1 with
        | nil => exact .nil
        | cons hx _ ih =>
          obtain ⟨y1, y2⟩ := List.pairwise_cons.mp h2
          refine List.pairwise_cons.mpr ⟨fun b hb => ?_, ih y2⟩
          have q1 := hx b hb
          have q2 := y1 b hb
          unfold ltS at q1 ⊢
          have q1 := of_decide_eq_false q1
          refine decide_eq_true (Classical.byContradiction fun g => q2 ?_)
          exact List.le_antisymm (List.not_lt.mp q1) (List.not_lt.mp g)
      exact this h1 h2
    refine for_go (fun i ρ1 ω1 => ∃ (L : List Ent) (x2 x3 x4 : Option D), (L.Perm (hEnts ⟨hs.d, rs'.take i⟩) ∧ L.Pairwise fun a b => aheadB a b = true) ∧ ω1 = ω.set r0 (.lst (L.map eD)) ∧ ρ1 = [some (.ref a), some (.ref r0), x2, x3, x4]) ?_ ?_ ⟨[], none, none, none, ⟨.refl _, .nil⟩, rfl, rfl⟩
    · rintro i d ρ1 _ M hd ⟨L, x2, x3, x4, ⟨hp, hL⟩, rfl, rfl⟩ hM
      rw [List.getElem?_map, List.getElem?_map, Option.map_eq_some_iff] at hd
      obtain ⟨k, hk, rfl⟩ := hd
      obtain ⟨r, hri, rfl⟩ := Option.map_eq_some_iff.mp hk
      have hrm : r ∈ hs.rs := pr.mem_iff.mp (List.mem_of_getElem? hri)
      refine ⟨trivial, ?_⟩
      walk_at "t_x"
      rw [hr.i]
      walk_at "t_x"
      refine ⟨kF, ?_⟩
      rw [kL]
      walk_at "t_x"
      rw [hr.d]
      walk_at "t_x"
      rcases valD_h hr.nk r.k with ⟨_, no⟩ | ⟨r2, hr2, rk, v⟩
      · exact absurd rfl (no r hrm)
      have : r2 = r := row_one hr.nk hr2 hrm rk
      subst this
      rw [v]
      have hqa := hqr r2 hrm
      walk_at "t_x"
      rw [hr.r r2 hrm]
      walk_at "t_x"
      rw [items_e]
      have et : hEnts ⟨hs.d, rs'.take (i + 1)⟩ = hEnts ⟨hs.d, rs'.take i⟩ ++ rEnts r2 := by
        rw [List.take_succ, hri]
        show hEnts ⟨hs.d, rs'.take i ++ [r2]⟩ = _
        rw [hE_app, hE_cons]
        simp [hEnts]
      have hall : (hEnts ⟨hs.d, rs'⟩).length = (hEnts hs).length := by
        unfold hEnts
        exact ((pr.map _).flatten).length_eq
      have hcut : (hEnts ⟨hs.d, rs'.take (i + 1)⟩).length ≤ (hEnts hs).length := by
        rw [← hall]
        conv => rhs; rw [← List.take_append_drop (i + 1) rs']
        rw [hE_app, List.length_append]; omega
      have hrl : (rEnts r2).length = r2.es.length := List.length_map _
      have hLl : L.length + r2.es.length ≤ 10000000 := by
        rw [et, List.length_append, hrl] at hcut
        have := hp.length_eq
        omega
      refine sort_desc (hr.ns r2 hrm).1 (fun p hp' Φ' q => ?_) fun es' pe pd => ?_
      · unfold pDh
        walk_at "t_x"
        exact q
      have hel := pe.length_eq
      refine for_go (fun j ρ1 ω1 => ∃ (y3 y4 : Option D), ω1 = ω.set r0 (.lst ((L ++ (es'.take j).map fun p => ((r2.k, p.1, p.2) : Ent)).map eD)) ∧ ρ1 = [some (.ref a), some (.ref r0), some (.str r2.k), y3, y4]) ?_ ?_ ⟨x3, x4, by simp, rfl⟩
      · rintro j d ρ1 _ M2 hd ⟨y3, y4, rfl, rfl⟩ hM2
        rw [List.getElem?_map, Option.map_eq_some_iff] at hd
        obtain ⟨p, hj, rfl⟩ := hd
        have hjl := (List.getElem?_eq_some_iff.mp hj).1
        refine ⟨trivial, ?_⟩
        unfold pDh
        walk_at "t_x"
        have hn : ((L ++ (es'.take j).map fun p => ((r2.k, p.1, p.2) : Ent)).map eD).length ≤ 10000000 := by
          rw [List.length_map, List.length_append, List.length_map, List.length_take]; omega
        rw [x_need (by omega)]
        refine hM2 _ _ ⟨_, _, ?_, rfl⟩
        rw [Om.set_set, List.take_succ, hj]
        simp [eD]
      · rintro ρ1 _ ⟨y3, y4, rfl, rfl⟩
        refine ⟨trivial, hM _ _ ⟨_, _, _, _, ⟨?_, ?_⟩, rfl, rfl⟩⟩
        · rw [List.length_map, List.take_length, et]
          exact hp.append (pe.map _)
        · rw [List.length_map, List.take_length, List.pairwise_append]
          refine ⟨hL, ?_, fun x hx y hy => ?_⟩
          · refine List.pairwise_map.mpr (pd.imp fun {p q} hpq => ?_)
            unfold aheadB
            rw [if_pos rfl]
            exact decide_eq_true hpq
          · obtain ⟨r', hr', q, _, rfl⟩ := mem_hE.mp (hp.mem_iff.mp hx)
            obtain ⟨q2, _, rfl⟩ := List.mem_map.mp hy
            obtain ⟨j, hj, ej⟩ := List.mem_iff_getElem.mp hr'
            rw [List.length_take] at hj
            have hil := (List.getElem?_eq_some_iff.mp hri).1
            have eri := (List.getElem?_eq_some_iff.mp hri).2
            have := List.pairwise_iff_getElem.mp ord j i (by omega) hil (by omega)
            rw [eri] at this
            rw [List.getElem_take] at ej
            rw [ej] at this
            unfold aheadB
            have ne : ¬ r'.k = r2.k := fun z => by
              rw [z] at this
              unfold ltS at this
              exact List.lt_irrefl _ (of_decide_eq_true this)
            show (if r'.k = r2.k then _ else ltS r'.k r2.k) = true
            rw [if_neg ne]; exact this
    · rintro ρ1 _ ⟨L, x2, x3, x4, ⟨hp, hL⟩, rfl, rfl⟩
      refine ⟨trivial, hN _ _ ⟨L, x2, x3, x4, ⟨?_, hL⟩, rfl, rfl⟩⟩
      rw [List.length_map, List.length_map, List.take_length] at hp
      refine hp.trans ?_
      unfold hEnts
      exact (pr.map _).flatten
  rintro ρ1 ω1 ⟨L, x2, x3, x4, hL, rfl, rfl⟩
  walk_at "t_x"
  exact h _ _ L (Grow.set hr0) hr0 Om.set_same hL
end
section
variable {K : Fg} {ω : Om} {Φ : D → Om → Prop}
theorem kN (d : D) (m : Str) (h : m ≠ "kept") : List.lookup m [(("kept" : Str), d)] = none := by
  have : (m == ("kept" : Str)) = false := beq_eq_false_iff_ne.mpr h
  simp only [List.lookup, this]
def inDD (lo : List Nat) (hi : Option (List Nat)) : D → Bool
  | .tup [.str k, .int s, _] => inH lo hi (k, s, none)
  | _ => false
theorem inDD_e (lo : List Nat) (hi : Option (List Nat)) (e : Ent) : inDD lo hi (eD e) = inH lo hi e := rfl
theorem hw_Hand_between : ∀ ds ω Φ, W_Hand_between ds ω Φ → (b_Hand_between : BS K).w (startD 4 ds) ω ⟨fun _ ω => Φ .non ω, Φ, fun _ _ => False, fun _ _ => False, fun _ _ _ => False⟩ := by
  rintro ds ω Φ ⟨a, hs, lo, hi, rfl, hr, h64, hz, h⟩
  unfold b_Hand_between
  walk_at "t_x"
  rw [hr.i]
  walk_at "t_x"
  refine ⟨kN _ _ (by decide), ?_⟩
  refine .inl ⟨rfl, ?_⟩
  refine ⟨a, hs, rfl, hr, h64, hz, fun ω1 r L g hrn hc hL => ?_⟩
  refine it_any (lstOf_ref.mpr hc) fun chk hk => ?_
  have hLl := hL.1.length_eq
  refine lc_filter1 (inDD lo hi) id _ _ (by rw [sizeLine_eq, List.length_map]; simp; omega) hk (fun d hd Q hq => ?_) (fun d hd _ Q hq => ?_) ?_
  · obtain ⟨e, _, rfl⟩ := List.mem_map.mp hd
    rw [inDD_e] at hq
    unfold inH at hq
    unfold eD
    walk_at "t_x"
    cases c : ltS e.1 lo with
    | true =>
      rw [c] at hq
      rw [if_neg (by decide)]
      exact hq
    | false =>
      rw [c] at hq
      rw [if_pos rfl]
      cases hi with
      | none =>
        show (if T.isNon .non = true then Q true ω1 else _)
        rw [if_pos (by decide)]
        exact hq
      | some x =>
        show (if T.isNon (.str x) = true then Q true ω1 else (oLt : O2 K).w (.str e.1) (.str x) ω1 fun x ω1 => blW x fun b => Q b ω1)
        rw [if_neg (by simp [T.isNon])]
        walk_at "t_x"
        exact hq
  · obtain ⟨e, _, rfl⟩ := List.mem_map.mp hd
    unfold eD
    walk_at "t_x"
    exact hq
  · rw [List.nil_append, List.map_id]
    intro b hb
    have ef : (L.map eD).filter (inDD lo hi) = (L.filter (inH lo hi)).map eD := by
      rw [List.filter_map]
      rfl
    rw [ef]
    exact h _ b L (g.trans (Grow.set hb)) (g.free hb) hL Om.set_same
end
section
variable {K : Fg} {ω : Om} {Φ : D → Om → Prop}
def tkn (rows : List (List Ent)) (ps : List Nat) : List (List Ent) := List.zipWith (fun r n => r.take n) rows ps
structure Mid (rows : List (List Ent)) (ps : List Nat) (fs : List Ent) : Prop where
  len : ps.length = rows.length
  le : ∀ (i : Nat) (h : i < rows.length) (h' : i < ps.length), ps[i] ≤ rows[i].length
  pm : fs.Perm (tkn rows ps).flatten
  pw : fs.Pairwise fun a b => aheadB a b = true
  lo : ∀ x ∈ fs, ∀ (i : Nat) (h : i < rows.length) (h' : i < ps.length), ∀ y ∈ rows[i].drop ps[i], aheadB x y = true
end
end G
namespace G
open PySem L2 T
local macro_rules | `(tactic| walk_at "t_side") => `(tactic| first | assumption | omega | decide | (simp only [List.length_append, List.length_cons, List.length_nil, List.length_map, List.length_flatten, List.length_replicate]; done) | (simp only [List.length_append, List.length_cons, List.length_nil, List.length_map, List.length_flatten, List.length_replicate]; omega))
local macro_rules | `(tactic| walk_at "t_x1") => `(tactic| simp (disch := (walk_at "t_side")) only [↓x_number, ↓x_oInt, ↓x_frz, ↓z_fgC, ↓z_fgN, ↓x_optS, ↓x_cL, ↓x_cI, ↓x_cK, ↓x_sz, ↓x_rg1, ↓x_rg2, ↓x_varS, ↓x_var, ↓x_addS, ↓x_addT, ↓x_addL, ↓x_addOL, ↓x_mul, ↓x_mulS, ↓x_mulLF, ↓x_mulLT, ↓x_div, ↓x_mod, ↓x_pow4, ↓x_pow5, ↓x_pow6, ↓x_pow7, ↓x_pow9, ↓x_pow12, ↓x_pow60, ↓x_shr, ↓x_isT, ↓x_isF, ↓x_isNT, ↓x_isNF, ↓x_isN, ↓x_isNN, ↓x_non0, ↓x_non1, ↓x_non2, ↓x_non3, ↓x_non4, ↓x_non5, ↓x_non6, ↓x_ixS, ↓x_ixT, ↓x_ixC, ↓x_ixL, ↓x_ixR, ↓x_at0, ↓x_at1, ↓x_at2, ↓x_at3, ↓x_at4, ↓x_at5, ↓x_at6, ↓x_at7, ↓x_at8, ↓x_at9, ↓x_at10, ↓x_slS, ↓x_slL, ↓x_slLO, ↓x_slC, ↓x_slR, ↓x_slRO, ↓x_in, ↓x_nin, ↓x_truS, ↓x_lenS, ↓x_lenR, ↓x_isW0, ↓x_isW1, ↓x_isW2, ↓x_isW3, ↓x_isW4, ↓x_isW5, ↓x_isTii, ↓x_isTbi, ↓x_isTbb, ↓x_isTib, ↓x_isTss, ↓x_isTtt, ↓x_isTll, ↓x_isTnt, ↓x_isTst, ↓x_isTit, ↓x_isTlt, ↓x_isTbt, ↓x_isTni, ↓x_isTns, ↓x_isTis, ↓x_isTbs, ↓x_isTts, ↓x_isTls, ↓x_isTsi, ↓x_isTti, ↓x_isTli, ↓x_isTtl, ↓x_gT, ↓x_itR, ↓x_truR, ↓x_setS, ↓x_setN, ↓x_it, ↓x_con, ↓x_lit, ↓x_int, ↓x_op, ↓x_add, ↓x_sub, ↓x_neg, ↓x_lt, ↓x_le, ↓x_gt, ↓x_ge, ↓x_ltS, ↓x_leS, ↓x_gtS, ↓x_geS, ↓x_eqI, ↓x_eqS, ↓x_eqB, ↓x_neI, ↓x_neS, ↓x_neB, ↓x_eqN, ↓x_neN, ↓x_eqIN, ↓x_eqNI, ↓x_eqSN, ↓x_eqNS, ↓x_isB, ↓x_isNB, ↓x_sl, ↓x_oN, ↓x_oS, ↓x_slT, ↓x_baN, ↓x_baC, ↓x_tup, ↓x_lst, ↓x_lstO, ↓x_tru, ↓x_truB, ↓x_truN, ↓x_truI, ↓x_truT, ↓x_truL, ↓x_tC, ↓x_tB, ↓x_tand, ↓x_tor, ↓x_tnot, ↓x_yes, ↓x_and, ↓x_or, ↓x_not, ↓x_if, ↓x_chain, ↓x_bl, ↓x_cb, ↓x_lenT, ↓x_lenL, ↓x_lenC, ↓x_max, ↓x_min, ↓x_isi, ↓x_frz, ↓x_next, ↓x_break, ↓x_cont, ↓x_asg, ↓x_gsN, ↓x_gsC, ↓x_drop, ↓x_ret, ↓x_retN, ↓x_sif, ↓x_for, ↓x_seqI, ↓x_itL, ↓x_itT, ↓x_itC, ↓x_itS, ↓x_r1, ↓x_r2, ↓x_dk, ↓x_dt, ↓x_lc, ↓x_lcO, ↓x_need, ↓x_seqL, ↓x_seqT, ↓x_seqC, ↓x_seqR, ↓x_lstL, ↓x_lstR, ↓x_ints, ↓x_ints0, ↓x_ints1, ↓x_strs, ↓x_strs0, ↓x_strs1, ↓x_bls, ↓x_bls0, ↓x_bls1, ↓x_omap, ↓x_cl, ↓x_clO, ↓x_ctu, ↓x_strI, ↓x_strS, ↓x_intI, ↓x_intB, ↓x_intS, ↓x_ord, ↓x_sum, ↓x_maxL, ↓x_minL, ↓x_any, ↓x_all2, ↓x_bM, ↓x_bM0, ↓x_tyS, ↓x_tyL, ↓x_tyR, ↓x_tyC0, ↓x_tyC1, ↓x_tyC2, ↓x_needE, ↓x_app, ↓x_ext, ↓x_pop, ↓x_popAt, ↓x_rev, ↓x_clr, ↓x_ins, ↓x_split, ↓x_part, ↓x_join, ↓x_zf, ↓x_sidx, ↓x_eqE0, ↓x_eqE1, ↓x_set0, ↓x_set1, ↓x_gNs, ↓x_augs, ↓x_vr0, ↓x_vr1, ↓x_oa0, ↓x_oa1, ↓x_oa2, ↓x_oa3, ↓x_oa4, ↓x_oa5, ↓x_oa6, ↓x_oa7, ↓x_oa8, ↓x_oa9, ↓x_oa10, ↓x_cLS, ↓x_cLN, ↓x_ssL, ↓x_ssT, ↓x_ssC, ↓x_slsL, ↓x_oi, ↓x_oi0, ↓x_oi1, ↓x_os, ↓x_os0, ↓x_os1, ↓x_ob, ↓x_ob0, ↓x_ob1, ↓x_ntS, ↓x_ntL, ↓x_ntR, ↓x_ntN, ↓x_cutT1, ↓x_cutT2, ↓x_cutT0, ↓x_cutF1, ↓x_cutF2, ↓x_cutF3, ↓x_gT2, ↓x_gT3, ↓x_gT4, ↓x_gT5, ↓x_apd0, ↓x_apd1, ↓x_call0, ↓x_callD, ↓x_mulT, ↓x_fmt, ↓x_strW, ↓x_join2, ↓x_birev, ↓x_bienum, ↓x_lxL, ↓x_bizip, ↓x_lxZ, ↓x_birevS, ↓x_lxx0, ↓x_lxx1, ↓x_lxx2, ↓x_no, ↓x_band, ↓x_bor, ↓x_bxor, ↓x_shl, ↓x_cbk, ↓x_maxD, ↓x_sortI, ↓x_sortIo, ↓x_lenSetI, ↓x_ninR, ↓x_inR, ↓x_eqRL, ↓x_neRL, ↓x_gSub, ↓x_gsW, ↓x_sel, ↓x_sortKF, ↓x_sortKT, ↓x_one1, ↓x_itV, ↓x_kwL, ↓x_kwF, ↓x_kEnv, ↓x_vo0, ↓x_vo1, ↓x_revLF, ↓x_revLT, List.map_cons, List.map_nil, List.set_cons_zero, List.set_cons_succ, List.getElem?_cons_zero, List.getElem?_cons_succ, List.length_cons, List.length_nil, List.replicate, List.cons_append, List.nil_append, start_def, decide_eq_true_eq, Bool.not_eq_true, Bool.not_eq_true', Bool.and_eq_true, Bool.or_eq_true, decide_eq_false_iff_not, Bool.not_not, Bool.not_true, Bool.not_false, ↓reduceIte, wipeD, Bool.false_eq_true, reduceCtorEq, Nat.reduceSub, Nat.reduceAdd, and_true, true_and, List.isEmpty_cons, List.isEmpty_nil, not_true_eq_false, not_false_eq_true, or_false, or_true, true_or, false_or, and_false, false_and, Bool.true_or, Bool.false_or, Bool.or_true, Bool.or_false, Bool.true_and, Bool.and_true, Bool.false_and, Bool.and_false, bne_iff_ne, ne_eq, implies_true, List.append_nil, Int.cast_ofNat_Int, Int.reduceEq, Int.reduceLT, Int.reduceLE, Int.reduceAdd, Int.reduceSub, Int.reduceMul, Int.reduceNeg, Int.reduceToNat, decide_true, decide_false, Int.reduceMod, Int.reduceDiv, Nat.reduceMul, List.flatten_nil, List.flatten_cons])
local macro_rules | `(tactic| walk_at "t_x") => `(tactic| ((try (simp only [start_def]; simp only [List.map_cons, List.map_nil, List.length_cons, List.length_nil, Nat.reduceAdd, Nat.reduceSub, List.replicate, List.cons_append, List.nil_append])); try (walk_at "t_x1"; try walk_at "t_x1")))
section
variable {K : Fg} {ω : Om} {Φ : D → Om → Prop}
theorem hw_name_of : ∀ ds ω Φ, W_name_of ds ω Φ → (b_name_of : BS K).w (startD 1 ds) ω ⟨fun _ ω => Φ .non ω, Φ, fun _ _ => False, fun _ _ => False, fun _ _ _ => False⟩ := by
  rintro ds ω Φ ⟨n, rfl, h0, h1, h⟩
  unfold b_name_of
  have hl := logI_ok h0 (by omega)
  have hh := strI_head h0
  have hn := strI_lt h0 (by omega)
  walk_at "t_x"
  have : (zfL (strI n) 7).length ≤ 100 := by unfold zfL; simp; omega
  walk_at "t_x"
  exact h
end
end G
namespace G
open PySem L2 T
local macro_rules | `(tactic| walk_at "t_side") => `(tactic| first | assumption | omega | decide | (simp only [List.length_append, List.length_cons, List.length_nil, List.length_map, List.length_flatten, List.length_replicate]; done) | (simp only [List.length_append, List.length_cons, List.length_nil, List.length_map, List.length_flatten, List.length_replicate]; omega))
local macro_rules | `(tactic| walk_at "t_x1") => `(tactic| simp (disch := (walk_at "t_side")) only [↓x_sortKF, ↓x_one1, ↓x_kwF, ↓x_ltDD, ↓x_optS, ↓x_cL, ↓x_cI, ↓x_cK, ↓x_sz, ↓x_rg1, ↓x_rg2, ↓x_varS, ↓x_var, ↓x_addS, ↓x_addT, ↓x_addL, ↓x_addOL, ↓x_mul, ↓x_mulS, ↓x_mulLF, ↓x_mulLT, ↓x_div, ↓x_mod, ↓x_pow4, ↓x_pow5, ↓x_pow6, ↓x_pow7, ↓x_pow9, ↓x_pow12, ↓x_pow60, ↓x_shr, ↓x_isT, ↓x_isF, ↓x_isNT, ↓x_isNF, ↓x_isN, ↓x_isNN, ↓x_non0, ↓x_non1, ↓x_non2, ↓x_non3, ↓x_non4, ↓x_non5, ↓x_non6, ↓x_ixS, ↓x_ixT, ↓x_ixC, ↓x_ixL, ↓x_ixR, ↓x_at0, ↓x_at1, ↓x_at2, ↓x_at3, ↓x_at4, ↓x_at5, ↓x_at6, ↓x_at7, ↓x_at8, ↓x_at9, ↓x_at10, ↓x_slS, ↓x_slL, ↓x_slLO, ↓x_slC, ↓x_slR, ↓x_slRO, ↓x_in, ↓x_nin, ↓x_truS, ↓x_lenS, ↓x_lenR, ↓x_isW0, ↓x_isW1, ↓x_isW2, ↓x_isW3, ↓x_isW4, ↓x_isW5, ↓x_isTii, ↓x_isTbi, ↓x_isTbb, ↓x_isTib, ↓x_isTss, ↓x_isTtt, ↓x_isTll, ↓x_isTnt, ↓x_isTst, ↓x_isTit, ↓x_isTlt, ↓x_isTbt, ↓x_isTni, ↓x_isTns, ↓x_isTis, ↓x_isTbs, ↓x_isTts, ↓x_isTls, ↓x_isTsi, ↓x_isTti, ↓x_isTli, ↓x_isTtl, ↓x_gT, ↓x_itR, ↓x_truR, ↓x_setS, ↓x_setN, ↓x_it, ↓x_con, ↓x_lit, ↓x_int, ↓x_op, ↓x_add, ↓x_sub, ↓x_neg, ↓x_lt, ↓x_le, ↓x_gt, ↓x_ge, ↓x_ltS, ↓x_leS, ↓x_gtS, ↓x_geS, ↓x_eqI, ↓x_eqS, ↓x_eqB, ↓x_neI, ↓x_neS, ↓x_neB, ↓x_eqN, ↓x_neN, ↓x_eqIN, ↓x_eqNI, ↓x_eqSN, ↓x_eqNS, ↓x_isB, ↓x_isNB, ↓x_sl, ↓x_oN, ↓x_oS, ↓x_slT, ↓x_baN, ↓x_baC, ↓x_tup, ↓x_lst, ↓x_lstO, ↓x_tru, ↓x_truB, ↓x_truN, ↓x_truI, ↓x_truT, ↓x_truL, ↓x_tC, ↓x_tB, ↓x_tand, ↓x_tor, ↓x_tnot, ↓x_yes, ↓x_and, ↓x_or, ↓x_not, ↓x_if, ↓x_chain, ↓x_bl, ↓x_cb, ↓x_lenT, ↓x_lenL, ↓x_lenC, ↓x_max, ↓x_min, ↓x_isi, ↓x_frz, ↓x_next, ↓x_break, ↓x_cont, ↓x_asg, ↓x_gsN, ↓x_gsC, ↓x_drop, ↓x_ret, ↓x_retN, ↓x_sif, ↓x_for, ↓x_seqI, ↓x_itL, ↓x_itT, ↓x_itC, ↓x_itS, ↓x_r1, ↓x_r2, ↓x_dk, ↓x_dt, ↓x_lc, ↓x_lcO, ↓x_need, ↓x_seqL, ↓x_seqT, ↓x_seqC, ↓x_seqR, ↓x_lstL, ↓x_lstR, ↓x_ints, ↓x_ints0, ↓x_ints1, ↓x_strs, ↓x_strs0, ↓x_strs1, ↓x_bls, ↓x_bls0, ↓x_bls1, ↓x_omap, ↓x_cl, ↓x_clO, ↓x_ctu, ↓x_strI, ↓x_strS, ↓x_intI, ↓x_intB, ↓x_intS, ↓x_ord, ↓x_sum, ↓x_maxL, ↓x_minL, ↓x_any, ↓x_all2, ↓x_bM, ↓x_bM0, ↓x_tyS, ↓x_tyL, ↓x_tyR, ↓x_tyC0, ↓x_tyC1, ↓x_tyC2, ↓x_needE, ↓x_app, ↓x_ext, ↓x_pop, ↓x_popAt, ↓x_rev, ↓x_clr, ↓x_ins, ↓x_split, ↓x_part, ↓x_join, ↓x_zf, ↓x_sidx, ↓x_eqE0, ↓x_eqE1, ↓x_set0, ↓x_set1, ↓x_gNs, ↓x_augs, ↓x_vr0, ↓x_vr1, ↓x_oa0, ↓x_oa1, ↓x_oa2, ↓x_oa3, ↓x_oa4, ↓x_oa5, ↓x_oa6, ↓x_oa7, ↓x_oa8, ↓x_oa9, ↓x_oa10, ↓x_cLS, ↓x_cLN, ↓x_ssL, ↓x_ssT, ↓x_ssC, ↓x_slsL, ↓x_oi, ↓x_oi0, ↓x_oi1, ↓x_os, ↓x_os0, ↓x_os1, ↓x_ob, ↓x_ob0, ↓x_ob1, ↓x_ntS, ↓x_ntL, ↓x_ntR, ↓x_ntN, ↓x_cutT1, ↓x_cutT2, ↓x_cutT0, ↓x_cutF1, ↓x_cutF2, ↓x_cutF3, ↓x_gT2, ↓x_gT3, ↓x_gT4, ↓x_gT5, ↓x_apd0, ↓x_apd1, ↓x_call0, ↓x_callD, ↓x_mulT, ↓x_fmt, ↓x_strW, ↓x_join2, ↓x_birev, ↓x_bienum, ↓x_lxL, ↓x_bizip, ↓x_lxZ, ↓x_birevS, ↓x_lxx0, ↓x_lxx1, ↓x_lxx2, ↓x_no, ↓x_band, ↓x_bor, ↓x_bxor, ↓x_shl, ↓x_cbk, ↓x_maxD, ↓x_sortI, ↓x_sortIo, ↓x_lenSetI, ↓x_ninR, ↓x_inR, ↓x_eqRL, ↓x_neRL, ↓x_gSub, ↓x_gsW, ↓x_sel, ↓x_sortKF, ↓x_sortKT, ↓x_one1, ↓x_itV, ↓x_kwL, ↓x_kwF, ↓x_kEnv, ↓x_vo0, ↓x_vo1, ↓x_revLF, ↓x_revLT, List.map_cons, List.map_nil, List.set_cons_zero, List.set_cons_succ, List.getElem?_cons_zero, List.getElem?_cons_succ, List.length_cons, List.length_nil, List.replicate, List.cons_append, List.nil_append, start_def, decide_eq_true_eq, Bool.not_eq_true, Bool.not_eq_true', Bool.and_eq_true, Bool.or_eq_true, decide_eq_false_iff_not, Bool.not_not, Bool.not_true, Bool.not_false, ↓reduceIte, wipeD, Bool.false_eq_true, reduceCtorEq, Nat.reduceSub, Nat.reduceAdd, and_true, true_and, List.isEmpty_cons, List.isEmpty_nil, not_true_eq_false, not_false_eq_true, or_false, or_true, true_or, false_or, and_false, false_and, Bool.true_or, Bool.false_or, Bool.or_true, Bool.or_false, Bool.true_and, Bool.and_true, Bool.false_and, Bool.and_false, bne_iff_ne, ne_eq, implies_true, List.append_nil, Int.cast_ofNat_Int, Int.reduceEq, Int.reduceLT, Int.reduceLE, Int.reduceAdd, Int.reduceSub, Int.reduceMul, Int.reduceNeg, Int.reduceToNat, decide_true, decide_false, Int.reduceMod, Int.reduceDiv, Nat.reduceMul, List.flatten_nil, List.flatten_cons])
local macro_rules | `(tactic| walk_at "t_x") => `(tactic| ((try (simp only [start_def]; simp only [List.map_cons, List.map_nil, List.length_cons, List.length_nil, Nat.reduceAdd, Nat.reduceSub, List.replicate, List.cons_append, List.nil_append])); try (walk_at "t_x1"; try walk_at "t_x1")))
section
variable {K : Fg} {ω : Om} {Φ : D → Om → Prop}
theorem hw_place_of : ∀ ds ω Φ, W_place_of ds ω Φ → (b_place_of : BS K).w (startD 1 ds) ω ⟨fun _ ω => Φ .non ω, Φ, fun _ _ => False, fun _ _ => False, fun _ _ _ => False⟩ := by
  rintro ds ω Φ ⟨e, rfl, h⟩
  unfold b_place_of eD
  walk_at "t_x"
  exact h
theorem x_place {e : Ent} : W_place_of [eD e] ω Φ = Φ (plD e) ω := propext ⟨fun ⟨c, e, z⟩ => by
  injection e with e1 e2
  rw [eD_inj e1]; exact z, fun h => ⟨e, rfl, h⟩⟩
theorem hw_sieve_for : ∀ ds ω Φ, W_sieve_for ds ω Φ → (b_sieve_for : BS K).w (startD 2 ds) ω ⟨fun _ ω => Φ .non ω, Φ, fun _ _ => False, fun _ _ => False, fun _ _ _ => False⟩ := by
  rintro ds ω Φ ⟨L, rs, rfl, hL, hz, h⟩
  unfold b_sieve_for
  walk_at "t_x"
  refine it_sq hL fun chk hc => ?_
  refine lc_mapT eD (fun e => .str e.1) rs (by omega) hc (fun e _ Q hq => ?_) ?_
  · unfold eD
    walk_at "t_x"
    exact hq
  have e : (rs.map fun e => D.str e.1) = (keysOf rs).map .str := by unfold keysOf; rw [List.map_map]; rfl
  rw [e]
  walk_at "t_x"
  refine ⟨_, keysOf rs, rfl, rfl, by unfold keysOf; rw [List.length_map]; exact hz, fun b hb => h b hb⟩
theorem c_sieve_for {L : D} {rs : List Ent} (hL : sqOf ω L = some (rs.map eD)) (hz : rs.length ≤ 4000) (h : ∀ b, Marks rs b → Φ (sieveD rs b) ω) : W_sieve_for [L] ω Φ := ⟨L, rs, rfl, hL, hz, h⟩
theorem hw_run_of : ∀ ds ω Φ, W_run_of ds ω Φ → (b_run_of : BS K).w (startD 2 ds) ω ⟨fun _ ω => Φ .non ω, Φ, fun _ _ => False, fun _ _ => False, fun _ _ _ => False⟩ := by
  rintro ds ω Φ ⟨L, es, rfl, hL, hz, hes, di, h⟩
  unfold b_run_of
  refine w_seq ?_
  walk_at "t_x"
  rw [hL]
  walk_at "t_x"
  refine sort_rows hes di (fun e _ Φ' q => ?_) fun rs p pw => ?_
  · walk_at "t_x"
    rw [x_place]
    exact q
  walk_at "t_x"
  refine c_sieve_for (sq_lst rfl) (by rw [p.length_eq]; exact hz) fun b hb => ?_
  walk_at "t_x"
  exact h rs b p pw hb
theorem pl_mono {a e : Ent} {k : List Nat} {s : Int} (h : aheadB a e = true) (g : lt2 e.1 (-e.2.1) k s = true) : lt2 a.1 (-a.2.1) k s = true := by
  rw [← ahead_lt] at h
  rw [← pl_lt] at g ⊢
  unfold dlt PySem.W.dataLt at h g ⊢
  have := (PyProof.Rows.listOrd PyProof.Rows.itemOrd).trans (PySem.W.keyToks (toPy (plD a))) (PySem.W.keyToks (toPy (plD e))) (PySem.W.keyToks (toPy (.tup [.str k, .int s]))) h g
  exact this
theorem hw_first_from : ∀ ds ω Φ, W_first_from ds ω Φ → (b_first_from : BS K).w (startD 5 ds) ω ⟨fun _ ω => Φ .non ω, Φ, fun _ _ => False, fun _ _ => False, fun _ _ _ => False⟩ := by
  rintro ds ω Φ ⟨rs, k, s, rfl, ⟨r1, r2, r3, r4⟩, hk, h⟩
  have mono : ∀ i j (hi : i < rs.length) (hj : j < rs.length), i ≤ j → lt2 rs[j].1 (-rs[j].2.1) k s = true → lt2 rs[i].1 (-rs[i].2.1) k s = true := fun i j hi hj hij g => by
    by_cases e : i = j
    · subst e; exact g
    · exact pl_mono (List.pairwise_iff_getElem.mp r4 i j hi hj (by omega)) g
  unfold b_first_from
  refine w_seq ?_
  walk_at "t_x"
  refine w_seq ?_
  walk_at "t_x"
  rw [List.length_map]
  refine w_cut (fun ρ1 ω1 => ω = ω1 ∧ ∃ (n : Nat) (y z : Option D), n ≤ rs.length ∧ (∀ i e, rs[i]? = some e → (i < n ↔ lt2 e.1 (-e.2.1) k s = true)) ∧ ρ1 = [some (.tup (rs.map eD)), some (.tup [.str k, .int s]), some (.int (n : Nat)), y, z]) (fun N hN => ?_) ?_
  · refine w_while (fun m ρ1 ω1 => ω = ω1 ∧ ∃ (lo hi : Nat) (z : Option D), lo ≤ hi ∧ hi ≤ rs.length ∧ m = hi - lo ∧ (∀ i (h : i < rs.length), i < lo → lt2 rs[i].1 (-rs[i].2.1) k s = true) ∧ (∀ i (h : i < rs.length), hi ≤ i → ¬ lt2 rs[i].1 (-rs[i].2.1) k s = true) ∧ ρ1 = [some (.tup (rs.map eD)), some (.tup [.str k, .int s]), some (.int (lo : Nat)), some (.int (hi : Nat)), z]) rs.length ⟨rfl, 0, rs.length, none, by omega, by omega, by omega, fun i _ h => by omega, fun i h g => by omega, rfl⟩ ?_
    rintro m _ _ M ⟨rfl, lo, hi, z, l1, l2, rfl, q1, q2, rfl⟩ hM
    walk_at "t_x"
    refine iteI (fun c => ?_) (fun c => ?_)
    · have c : lo < hi := by omega
      refine w_seq ?_
      obtain ⟨half, hh⟩ : ∃ n : Nat, (((lo : Nat) : Int) + ((hi : Nat) : Int)) / 2 = (n : Int) := ⟨((lo + hi) / 2), by omega⟩
      have hh1 : lo ≤ half ∧ half < hi := by omega
      have hl : half < rs.length := by omega
      walk_at "t_x"
      rw [hh]
      walk_at "t_x"
      rw [at_map (f := eD) (List.getElem?_eq_getElem hl)]
      walk_at "t_x"
      rw [x_place]
      walk_at "t_x"
      refine ⟨key_ok (r3 _ (List.getElem_mem hl)), (dOk_tup (n := 1) fun d hd => ?_).1, alk_two _ _ _ _, ?_⟩
      · simp only [List.mem_cons, List.not_mem_nil, or_false] at hd
        rcases hd with rfl | rfl
        · exact dOk_str (ok_asc hk)
        · exact dOk_int
      rw [pl_lt]
      walk_at "t_x"
      refine iteI (fun c2 => ?_) (fun c2 => ?_)
      · walk_at "t_x"
        rw [show ((half : Nat) : Int) + 1 = ((half + 1 : Nat) : Int) by omega]
        exact hM (hi - (half + 1)) _ _ (by omega) ⟨rfl, half + 1, hi, _, by omega, l2, rfl, fun i h hi' => mono i half h hl (by omega) c2, q2, rfl⟩
      · walk_at "t_x"
        exact hM (half - lo) _ _ (by omega) ⟨rfl, lo, half, _, by omega, by omega, rfl, q1, fun i h hi' z => c2 (mono half i hl h hi' z), rfl⟩
    · have c : lo = hi := by omega
      subst c
      refine hN _ _ ⟨rfl, lo, _, _, l2, fun i e he => ?_, rfl⟩
      obtain ⟨hi, rfl⟩ := List.getElem?_eq_some_iff.mp he
      exact ⟨fun z => q1 i hi z, fun z => Classical.byContradiction fun g => q2 i hi (by omega) z⟩
  rintro _ _ ⟨rfl, n, y, z, hn, hq, rfl⟩
  walk_at "t_x"
  exact h n hn hq
theorem c_first {rs : List Ent} {k : List Nat} {s : Int} (hr : RowsW rs) (hk : k.all okc = true) (h : ∀ n : Nat, n ≤ rs.length → (∀ i e, rs[i]? = some e → (i < n ↔ lt2 e.1 (-e.2.1) k s = true)) → Φ (.int (n : Nat)) ω) : W_first_from [.tup (rs.map eD), .tup [.str k, .int s]] ω Φ := ⟨rs, k, s, rfl, hr, hk, h⟩
theorem may_all {rs : List Ent} {b : Nat} {e : Ent} (hb : Marks rs b) (he : e ∈ rs) : ((placesOf e.1 (sieveSz (keysOf rs) : Nat)).all fun x => b.testBit x.toNat) = true := List.all_eq_true.mpr fun x hx => by
  have hb' := hb x.toNat
  have h0 := places_bd (sz_pos (keysOf rs)) hx
  show b.testBit x.toNat = true
  rw [hb']
  unfold markedB
  refine List.any_eq_true.mpr ⟨e.1, List.mem_map.mpr ⟨e, he, rfl⟩, List.any_eq_true.mpr ⟨x, hx, ?_⟩⟩
  exact beq_iff_eq.mpr (by omega)
theorem lt2_same {k : List Nat} {i j : Int} : lt2 k i k j = decide (i < j) := by
  unfold lt2
  have : ltS k k = false := by
    cases h : ltS k k with
    | false => rfl
    | true => have := ltS_asym h; rw [h] at this; exact this
  rw [this]; rfl
theorem hw_find : ∀ ds ω Φ, W_find ds ω Φ → (b_find : BS K).w (startD 6 ds) ω ⟨fun _ ω => Φ .non ω, Φ, fun _ _ => False, fun _ _ => False, fun _ _ _ => False⟩ := by
  rintro ds ω Φ ⟨rs, b, k, s, rfl, hr, hb, hk, hkz, h⟩
  obtain ⟨r1, r2, r3, r4⟩ := id hr
  unfold b_find runD
  refine w_seq ?_
  walk_at "t_x"
  refine w_seq (w_sifB (!(placesOf k (sieveSz (keysOf rs) : Nat)).all fun x => b.testBit x.toNat) (fun F hF => ?_) (iteI (fun c => ?_) (fun c => w_next ?_)))
  · unfold sieveD
    walk_at "t_x"
    rw [x_may (sz_pos _)]
    walk_at "t_x"
    exact hF
  · walk_at "t_x"
    refine h none ⟨fun _ e he hek => ?_, fun m hm => nomatch hm⟩
    have := may_all hb he
    rw [hek] at this
    rw [this] at c
    exact absurd c (by decide)
  refine w_seq ?_
  walk_at "t_x"
  refine c_first hr hk fun n hn hq => ?_
  walk_at "t_x"
  have low : ∀ i (hi : i < rs.length), rs[i].1 = k → rs[i].2.1 ≤ s → n ≤ i := fun i hi e1 e2 => by
    refine Nat.not_lt.mp fun hlt => ?_
    have := (hq i _ (List.getElem?_eq_getElem hi)).mp hlt
    rw [e1, lt2_same] at this
    have := of_decide_eq_true this
    omega
  by_cases hl : n < rs.length
  · have ga : atI (rs.map eD) ((n : Nat) : Int) = some (eD rs[n]) := at_map (List.getElem?_eq_getElem hl)
    have gq : ¬ lt2 rs[n].1 (-rs[n].2.1) k (-s) = true := fun z => absurd ((hq n _ (List.getElem?_eq_getElem hl)).mpr z) (by omega)
    refine w_seq (w_sifB (decide (rs[n].1 = k)) (fun F hF => ?_) (iteI (fun c => ?_) (fun c => w_next ?_)))
    · walk_at "t_x"
      rw [List.length_map]
      walk_at "t_x"
      refine iteI (fun _ => ?_) (fun z => absurd (show ((n : Nat) : Int) < ((rs.length : Nat) : Int) by omega) z)
      rw [ga]
      unfold eD
      walk_at "t_x"
      exact hF
    · have c : rs[n].1 = k := of_decide_eq_true c
      walk_at "t_x"
      rw [ga]
      walk_at "t_x"
      refine h (some rs[n]) ⟨nofun, fun m hm => ?_⟩
      cases hm
      refine ⟨List.getElem_mem hl, c, ?_, fun e he e1 e2 => ?_⟩
      · refine Int.not_lt.mp fun hlt => gq ?_
        rw [c, lt2_same]
        exact decide_eq_true (by omega)
      · obtain ⟨i, hi, rfl⟩ := List.getElem_of_mem he
        have := low i hi e1 e2
        by_cases hin : n = i
        · subst hin; exact Int.le_refl _
        · have ha := List.pairwise_iff_getElem.mp r4 n i hl hi (by omega)
          unfold aheadB at ha
          rw [if_pos (by rw [c, e1])] at ha
          have := of_decide_eq_true ha
          omega
    · have c : ¬ rs[n].1 = k := fun z => c (decide_eq_true z)
      walk_at "t_x"
      refine h none ⟨fun _ e he e1 => Int.not_le.mp fun e2 => ?_, fun m hm => nomatch hm⟩
      obtain ⟨i, hi, rfl⟩ := List.getElem_of_mem he
      have := low i hi e1 e2
      have hin : n ≠ i := fun z => by subst z; exact c e1
      have ha := List.pairwise_iff_getElem.mp r4 n i hl hi (by omega)
      unfold aheadB at ha
      rw [if_neg (fun z => c (z.trans e1))] at ha
      refine gq ?_
      unfold lt2
      rw [← e1, ha]; rfl
  · refine w_seq (w_sifB false (fun F hF => ?_) (iteF (w_next ?_)))
    · walk_at "t_x"
      rw [List.length_map]
      walk_at "t_x"
      exact iteI (fun z => absurd z (show ¬ ((n : Nat) : Int) < ((rs.length : Nat) : Int) by omega)) (fun _ => hF)
    walk_at "t_x"
    refine h none ⟨fun _ e he e1 => Int.not_le.mp fun e2 => ?_, fun m hm => nomatch hm⟩
    obtain ⟨i, hi, rfl⟩ := List.getElem_of_mem he
    have := low i hi e1 e2
    omega
theorem c_find {rs : List Ent} {b : Nat} {k : List Nat} {s : Int} (hr : RowsW rs) (hb : Marks rs b) (hk : k.all okc = true) (hz : k.length ≤ 1000) (h : ∀ r, Newest rs k s r → Φ (oE r) ω) : W_find [runD rs b, .str k, .int s] ω Φ := ⟨rs, b, k, s, rfl, hr, hb, hk, hz, h⟩
theorem filt_cut {α : Type} {q : α → Bool} : ∀ {l : List α} {n m : Nat}, (∀ i e, l[i]? = some e → (q e = true ↔ n ≤ i ∧ i < m)) → l.filter q = (l.drop n).take (m - n)
  | [], n, m, _ => by simp
  | x :: t, 0, 0, h => by
    rw [List.filter_eq_nil_iff.mpr fun e he z => ?_]
    · rfl
    · obtain ⟨i, hi, rfl⟩ := List.getElem_of_mem he
      have := (h i _ (List.getElem?_eq_getElem hi)).mp z
      omega
  | x :: t, 0, m + 1, h => by
    have hx : q x = true := (h 0 x rfl).mpr ⟨by omega, by omega⟩
    rw [List.filter_cons_of_pos hx, filt_cut (n := 0) (m := m) fun i e he => ?_]
    · rfl
    · rw [h (i + 1) e (by simpa using he)]; omega
  | x :: t, n + 1, m, h => by
    have hx : ¬ q x = true := fun z => by have := (h 0 x rfl).mp z; omega
    rw [List.filter_cons_of_neg hx, filt_cut (n := n) (m := m - 1) fun i e he => ?_]
    · rw [List.drop_succ_cons, Nat.sub_sub, Nat.add_comm 1 n]
    · rw [h (i + 1) e (by simpa using he)]; omega
theorem lt2_low {e : Ent} (h : OkE e) (k : List Nat) : lt2 e.1 (-e.2.1) k (-1000000001) = ltS e.1 k := by
  have := h.s
  unfold lt2
  rw [decide_eq_false (by omega), Bool.and_false, Bool.or_false]
theorem hw_between : ∀ ds ω Φ, W_between ds ω Φ → (b_between : BS K).w (startD 5 ds) ω ⟨fun _ ω => Φ .non ω, Φ, fun _ _ => False, fun _ _ => False, fun _ _ _ => False⟩ := by
  rintro ds ω Φ ⟨rs, b, lo, hi, rfl, hr, hlo, hhi, h⟩
  obtain ⟨r1, r2, r3, r4⟩ := id hr
  unfold b_between runD
  refine w_seq ?_
  walk_at "t_x"
  refine w_seq ?_
  walk_at "t_x"
  refine c_first hr hlo fun n hn hq => ?_
  walk_at "t_x"
  have lowq : ∀ i e, rs[i]? = some e → (n ≤ i ↔ ltS e.1 lo = false) := fun i e he => by
    have := hq i e he
    rw [lt2_low (r3 e (List.mem_of_getElem? he))] at this
    cases hl : ltS e.1 lo with
    | false => rw [hl] at this; exact ⟨fun _ => rfl, fun _ => Nat.not_lt.mp fun z => absurd (this.mp z) (by decide)⟩
    | true => rw [hl] at this; exact ⟨fun z => absurd (this.mpr rfl) (by omega), fun z => absurd z (by decide)⟩
  cases hi with
  | none =>
    refine w_seq (w_sifB true (fun F hF => ?_) (iteT ?_))
    · unfold vD
      walk_at "t_x"
      exact hF
    walk_at "t_x"
    rw [cut_from _ (by omega), Int.toNat_natCast]
    intro a ha
    have e : rs.filter (inB lo none) = rs.drop n := by
      rw [filt_cut (n := n) (m := rs.length) fun i e he => ?_]
      · rw [List.take_of_length_le]; rw [List.length_drop]; omega
      · have hi := (List.getElem?_eq_some_iff.mp he).1
        unfold inB
        simp only [Bool.and_true, Bool.not_eq_true']
        rw [← lowq i e he]
        omega
    rw [← List.map_drop, ← e]
    exact h a ha
  | some hi =>
    refine w_seq (w_sifB false (fun F hF => ?_) (iteF (w_next ?_)))
    · unfold vD
      walk_at "t_x"
      exact hF
    unfold vD
    walk_at "t_x"
    refine c_first hr (hhi hi rfl) fun m hm hqm => ?_
    walk_at "t_x"
    intro a ha
    have upq : ∀ i e, rs[i]? = some e → (i < m ↔ ltS e.1 hi = true) := fun i e he => by
      have := hqm i e he
      rw [lt2_low (r3 e (List.mem_of_getElem? he))] at this
      exact this
    have e : rs.filter (inB lo (some hi)) = (rs.drop n).take (max n m - n) := by
      rw [filt_cut (n := n) (m := m) fun i e he => ?_]
      · rw [show max n m - n = m - n by omega]
      · show (!ltS e.1 lo && ltS e.1 hi) = true ↔ _
        rw [Bool.and_eq_true, Bool.not_eq_true', ← lowq i e he, ← upq i e he]
    rw [cut_mid _ (by omega) (by omega), show (max ((n : Nat) : Int) ((m : Nat) : Int)).toNat = max n m by omega, Int.toNat_natCast, ← List.map_drop, ← List.map_take, ← e]
    exact h a ha
theorem c_between {rs : List Ent} {b : Nat} {lo : List Nat} {hi : Option (List Nat)} (hr : RowsW rs) (hlo : lo.all okc = true) (hhi : ∀ h, hi = some h → h.all okc = true) (h : ∀ a, ω a = none → Φ (.ref a) (ω.set a (.lst ((rs.filter (inB lo hi)).map eD)))) : W_between [runD rs b, .str lo, vD hi] ω Φ := ⟨rs, b, lo, hi, rfl, hr, hlo, hhi, h⟩
end
section
variable {K : Fg} {ω : Om} {Φ : D → Om → Prop}
theorem flat_len : ∀ {ls : List (List Nat)} {m : Nat}, (∀ l ∈ ls, l.length ≤ m) → ((ls.map (· ++ [10])).flatten).length ≤ ls.length * (m + 1)
  | [], _, _ => by simp
  | l :: r, m, h => by
    have h1 := flat_len (ls := r) (m := m) fun x hx => h x (List.mem_cons_of_mem _ hx)
    have h2 := h l List.mem_cons_self
    rw [List.map_cons, List.flatten_cons, List.length_append, List.length_append, show (l :: r).length = r.length + 1 from rfl, Nat.add_mul, Nat.one_mul]
    show l.length + 1 + _ ≤ _
    omega
end
section
theorem bits_fold (m : Nat → Bool) (q : Nat) : ∀ (l : List Nat) (b : Nat), (l.foldl (fun b p => if m p = true then b ||| 2 ^ p else b) b).testBit q = (b.testBit q || (l.contains q && m q))
  | [], b => by simp
  | p :: r, b => by
    rw [List.foldl_cons, bits_fold m q r]
    by_cases h : m p = true
    · rw [if_pos h, or_test]
      by_cases e : q = p
      · subst e
        simp [h]
      · have : (q == p) = false := beq_eq_false_iff_ne.mpr e
        simp [e, this]
    · rw [if_neg h]
      by_cases e : q = p
      · subst e
        have : m q = false := by simpa using h
        simp [this]
      · simp [e]
theorem marks_bits (rs : List Ent) : Marks rs (bitsOf rs) := fun p => by
  unfold bitsOf
  rw [bits_fold (fun p => markedB (keysOf rs) (sieveSz (keysOf rs)) p) p (List.range (sieveSz (keysOf rs))) 0]
  rw [Nat.zero_testBit, Bool.false_or]
  cases h : markedB (keysOf rs) (sieveSz (keysOf rs)) p with
  | false => simp
  | true =>
    have z : 0 < sieveSz (keysOf rs) := by unfold sieveSz; omega
    have := marked_lt z h
    simp [this]
theorem putE_d {es : List Ent} {e : Ent} (d : Dist es) : Dist (putE es e) := by
  unfold putE Dist
  rw [List.pairwise_append]
  refine ⟨d.sublist List.filter_sublist, List.pairwise_singleton _ _, fun x hx y hy => ?_⟩
  rw [List.mem_singleton.mp hy]
  have := (List.mem_filter.mp hx).2
  intro z
  rw [decide_eq_true z] at this
  cases this
theorem nodup_len {α : Type} [DecidableEq α] : ∀ {l m : List α}, l.Nodup → l ⊆ m → l.length ≤ m.length
  | [], _, _, _ => Nat.zero_le _
  | x :: r, m, nd, h => by
    rw [List.nodup_cons] at nd
    have hx : x ∈ m := h List.mem_cons_self
    have := nodup_len (m := m.erase x) nd.2 fun y hy => (List.mem_erase_of_ne (fun e : y = x => nd.1 (by rw [← e]; exact hy))).mpr (h (List.mem_cons_of_mem _ hy))
    rw [List.length_erase_of_mem hx] at this
    have := List.length_pos_of_mem hx
    simp only [List.length_cons]
    omega
theorem hand_keys {ω : Om} {a : Addr} {h : HSt} {L : List Ent} {ks : List (List Nat)} (hR : HandR ω a h) (hL : HRows h L) (hk : ∀ e ∈ L, e.1 ∈ ks) : h.rs.length ≤ ks.length := by
  have sub : (h.rs.map (·.k)) ⊆ ks := fun k hk' => by
    obtain ⟨r, hr, rfl⟩ := List.mem_map.mp hk'
    obtain ⟨_, hne⟩ := hR.ns r hr
    obtain ⟨p, hp⟩ : ∃ p, p ∈ r.es := List.exists_mem_of_ne_nil _ hne
    have : ((r.k, p.1, p.2) : Ent) ∈ hEnts h := List.mem_flatten.mpr ⟨_, List.mem_map_of_mem hr, List.mem_map.mpr ⟨p, hp, rfl⟩⟩
    exact hk _ (hL.1.mem_iff.mpr this)
  have h2 : (h.rs.map (·.k)).length ≤ ks.length := nodup_len hR.nk sub
  rw [List.length_map] at h2
  exact h2
end
end G
namespace G
open PySem L2 T
local macro_rules | `(tactic| walk_at "t_side") => `(tactic| first | assumption | omega | decide | (simp only [List.length_append, List.length_cons, List.length_nil, List.length_map, List.length_flatten, List.length_replicate]; done) | (simp only [List.length_append, List.length_cons, List.length_nil, List.length_map, List.length_flatten, List.length_replicate]; omega))
local macro_rules | `(tactic| walk_at "t_x1") => `(tactic| simp (disch := (walk_at "t_side")) only [↓x_frz, ↓x_neE0, ↓x_neE1, ↓x_eqE0, ↓x_eqE1, ↓y_fld, ↓y_sfld, ↓y_meth, ↓x_make, ↓x_refW, ↓x_insW, ↓y_lk0, ↓y_lk1, ↓y_lkn, ↓y_pt0, ↓y_pt1, ↓y_ptn, ↓y_wX, ↓y_tab1, ↓y_tab2, ↓y_set0, ↓y_set1, ↓x_dget2, ↓x_dsetd, ↓x_dpop, ↓x_kvW, ↓x_dkOf1, ↓x_dkOf2, ↓x_dg1W, ↓x_keyS, ↓x_keyI, ↓x_bdget, ↓x_dgetW1, ↓x_dgetW2, ↓x_bdput, ↓x_dputK1, ↓x_dputK2, ↓x_lenK, ↓x_listK0, ↓x_sortS0, ↓y_dictC, ↓y_sortK1, ↓y_sortK0, ↓x_din, ↓x_dnewK, ↓x_raiseF, ↓x_optS, ↓x_cL, ↓x_cI, ↓x_cK, ↓x_sz, ↓x_rg1, ↓x_rg2, ↓x_varS, ↓x_var, ↓x_addS, ↓x_addT, ↓x_addL, ↓x_addOL, ↓x_mul, ↓x_mulS, ↓x_mulLF, ↓x_mulLT, ↓x_div, ↓x_mod, ↓x_pow4, ↓x_pow5, ↓x_pow6, ↓x_pow7, ↓x_pow9, ↓x_pow12, ↓x_pow60, ↓x_shr, ↓x_isT, ↓x_isF, ↓x_isNT, ↓x_isNF, ↓x_isN, ↓x_isNN, ↓x_non0, ↓x_non1, ↓x_non2, ↓x_non3, ↓x_non4, ↓x_non5, ↓x_non6, ↓x_ixS, ↓x_ixT, ↓x_ixC, ↓x_ixL, ↓x_ixR, ↓x_at0, ↓x_at1, ↓x_at2, ↓x_at3, ↓x_at4, ↓x_at5, ↓x_at6, ↓x_at7, ↓x_at8, ↓x_at9, ↓x_at10, ↓x_slS, ↓x_slL, ↓x_slLO, ↓x_slC, ↓x_slR, ↓x_slRO, ↓x_in, ↓x_nin, ↓x_truS, ↓x_lenS, ↓x_lenR, ↓x_isW0, ↓x_isW1, ↓x_isW2, ↓x_isW3, ↓x_isW4, ↓x_isW5, ↓x_isTii, ↓x_isTbi, ↓x_isTbb, ↓x_isTib, ↓x_isTss, ↓x_isTtt, ↓x_isTll, ↓x_isTnt, ↓x_isTst, ↓x_isTit, ↓x_isTlt, ↓x_isTbt, ↓x_isTni, ↓x_isTns, ↓x_isTis, ↓x_isTbs, ↓x_isTts, ↓x_isTls, ↓x_isTsi, ↓x_isTti, ↓x_isTli, ↓x_isTtl, ↓x_gT, ↓x_itR, ↓x_truR, ↓x_setS, ↓x_setN, ↓x_it, ↓x_con, ↓x_lit, ↓x_int, ↓x_op, ↓x_add, ↓x_sub, ↓x_neg, ↓x_lt, ↓x_le, ↓x_gt, ↓x_ge, ↓x_ltS, ↓x_leS, ↓x_gtS, ↓x_geS, ↓x_eqI, ↓x_eqS, ↓x_eqB, ↓x_neI, ↓x_neS, ↓x_neB, ↓x_eqN, ↓x_neN, ↓x_eqIN, ↓x_eqNI, ↓x_eqSN, ↓x_eqNS, ↓x_isB, ↓x_isNB, ↓x_sl, ↓x_oN, ↓x_oS, ↓x_slT, ↓x_baN, ↓x_baC, ↓x_tup, ↓x_lst, ↓x_lstO, ↓x_tru, ↓x_truB, ↓x_truN, ↓x_truI, ↓x_truT, ↓x_truL, ↓x_tC, ↓x_tB, ↓x_tand, ↓x_tor, ↓x_tnot, ↓x_yes, ↓x_and, ↓x_or, ↓x_not, ↓x_if, ↓x_chain, ↓x_bl, ↓x_cb, ↓x_lenT, ↓x_lenL, ↓x_lenC, ↓x_max, ↓x_min, ↓x_isi, ↓x_frz, ↓x_next, ↓x_break, ↓x_cont, ↓x_asg, ↓x_gsN, ↓x_gsC, ↓x_drop, ↓x_ret, ↓x_retN, ↓x_sif, ↓x_for, ↓x_seqI, ↓x_itL, ↓x_itT, ↓x_itC, ↓x_itS, ↓x_r1, ↓x_r2, ↓x_dk, ↓x_dt, ↓x_lc, ↓x_lcO, ↓x_need, ↓x_seqL, ↓x_seqT, ↓x_seqC, ↓x_seqR, ↓x_lstL, ↓x_lstR, ↓x_ints, ↓x_ints0, ↓x_ints1, ↓x_strs, ↓x_strs0, ↓x_strs1, ↓x_bls, ↓x_bls0, ↓x_bls1, ↓x_omap, ↓x_cl, ↓x_clO, ↓x_ctu, ↓x_strI, ↓x_strS, ↓x_intI, ↓x_intB, ↓x_intS, ↓x_ord, ↓x_sum, ↓x_maxL, ↓x_minL, ↓x_any, ↓x_all2, ↓x_bM, ↓x_bM0, ↓x_tyS, ↓x_tyL, ↓x_tyR, ↓x_tyC0, ↓x_tyC1, ↓x_tyC2, ↓x_needE, ↓x_app, ↓x_ext, ↓x_pop, ↓x_popAt, ↓x_rev, ↓x_clr, ↓x_ins, ↓x_split, ↓x_part, ↓x_join, ↓x_zf, ↓x_sidx, ↓x_eqE0, ↓x_eqE1, ↓x_set0, ↓x_set1, ↓x_gNs, ↓x_augs, ↓x_vr0, ↓x_vr1, ↓x_oa0, ↓x_oa1, ↓x_oa2, ↓x_oa3, ↓x_oa4, ↓x_oa5, ↓x_oa6, ↓x_oa7, ↓x_oa8, ↓x_oa9, ↓x_oa10, ↓x_cLS, ↓x_cLN, ↓x_ssL, ↓x_ssT, ↓x_ssC, ↓x_slsL, ↓x_oi, ↓x_oi0, ↓x_oi1, ↓x_os, ↓x_os0, ↓x_os1, ↓x_ob, ↓x_ob0, ↓x_ob1, ↓x_ntS, ↓x_ntL, ↓x_ntR, ↓x_ntN, ↓x_cutT1, ↓x_cutT2, ↓x_cutT0, ↓x_cutF1, ↓x_cutF2, ↓x_cutF3, ↓x_gT2, ↓x_gT3, ↓x_gT4, ↓x_gT5, ↓x_apd0, ↓x_apd1, ↓x_call0, ↓x_callD, ↓x_mulT, ↓x_fmt, ↓x_strW, ↓x_join2, ↓x_birev, ↓x_bienum, ↓x_lxL, ↓x_bizip, ↓x_lxZ, ↓x_birevS, ↓x_lxx0, ↓x_lxx1, ↓x_lxx2, ↓x_no, ↓x_band, ↓x_bor, ↓x_bxor, ↓x_shl, ↓x_cbk, ↓x_maxD, ↓x_sortI, ↓x_sortIo, ↓x_lenSetI, ↓x_ninR, ↓x_inR, ↓x_eqRL, ↓x_neRL, ↓x_gSub, ↓x_gsW, ↓x_sel, ↓x_sortKF, ↓x_sortKT, ↓x_one1, ↓x_itV, ↓x_kwL, ↓x_kwF, ↓x_kEnv, ↓x_vo0, ↓x_vo1, ↓x_revLF, ↓x_revLT, List.map_cons, List.map_nil, List.set_cons_zero, List.set_cons_succ, List.getElem?_cons_zero, List.getElem?_cons_succ, List.length_cons, List.length_nil, List.replicate, List.cons_append, List.nil_append, start_def, decide_eq_true_eq, Bool.not_eq_true, Bool.not_eq_true', Bool.and_eq_true, Bool.or_eq_true, decide_eq_false_iff_not, Bool.not_not, Bool.not_true, Bool.not_false, ↓reduceIte, wipeD, Bool.false_eq_true, reduceCtorEq, Nat.reduceSub, Nat.reduceAdd, and_true, true_and, List.isEmpty_cons, List.isEmpty_nil, not_true_eq_false, not_false_eq_true, or_false, or_true, true_or, false_or, and_false, false_and, Bool.true_or, Bool.false_or, Bool.or_true, Bool.or_false, Bool.true_and, Bool.and_true, Bool.false_and, Bool.and_false, bne_iff_ne, ne_eq, implies_true, List.append_nil, Int.cast_ofNat_Int, Int.reduceEq, Int.reduceLT, Int.reduceLE, Int.reduceAdd, Int.reduceSub, Int.reduceMul, Int.reduceNeg, Int.reduceToNat, decide_true, decide_false, Int.reduceMod, Int.reduceDiv, Nat.reduceMul, List.flatten_nil, List.flatten_cons])
local macro_rules | `(tactic| walk_at "t_x") => `(tactic| ((try (simp only [start_def]; simp only [List.map_cons, List.map_nil, List.length_cons, List.length_nil, Nat.reduceAdd, Nat.reduceSub, List.replicate, List.cons_append, List.nil_append])); try (walk_at "t_x1"; try walk_at "t_x1")))
local macro_rules | `(tactic| walk_at "t_f") => `(tactic| first | with_reducible refine insW_at (by assumption) ?_ | with_reducible refine cK_at (by assumption) ?_ | with_reducible refine cL_at (by assumption) ?_ | with_reducible refine kv_at (by assumption) ?_ | with_reducible refine tyL_at (by assumption) ?_ | with_reducible refine tyK_at (by assumption) ?_)
local macro_rules | `(tactic| walk_at "t_w") => `(tactic| (walk_at "t_x"; repeat (walk_at "t_f"; walk_at "t_x")))
section
variable {K : Fg} {ω : Om} {Φ : D → Om → Prop}
theorem hw_Part_called : ∀ ds ω Φ, W_Part_called ds ω Φ → (b_Part_called : BS K).w (startD 1 ds) ω ⟨fun _ ω => Φ .non ω, Φ, fun _ _ => False, fun _ _ => False, fun _ _ _ => False⟩ := by
  rintro ds ω Φ ⟨d, rfl, h⟩
  exact h
theorem hw_Part_says : ∀ ds ω Φ, W_Part_says ds ω Φ → (b_Part_says : BS K).w (startD 2 ds) ω ⟨fun _ ω => Φ .non ω, Φ, fun _ _ => False, fun _ _ => False, fun _ _ _ => False⟩ := by
  rintro ds ω Φ ⟨d, k, rfl, h⟩
  exact h
theorem hw_Part_find : ∀ ds ω Φ, W_Part_find ds ω Φ → (b_Part_find : BS K).w (startD 3 ds) ω ⟨fun _ ω => Φ .non ω, Φ, fun _ _ => False, fun _ _ => False, fun _ _ _ => False⟩ := by
  rintro ds ω Φ ⟨d, k, s, rfl, h⟩
  exact h
theorem hw_Part_between : ∀ ds ω Φ, W_Part_between ds ω Φ → (b_Part_between : BS K).w (startD 3 ds) ω ⟨fun _ ω => Φ .non ω, Φ, fun _ _ => False, fun _ _ => False, fun _ _ _ => False⟩ := by
  rintro ds ω Φ ⟨d, lo, hi, rfl, h⟩
  unfold b_Part_between
  walk_at "t_x"
  exact h
theorem hw_InHand___init__ : ∀ ds ω Φ, W_InHand___init__ ds ω Φ → (b_InHand___init__ : BS K).w (startD 2 ds) ω ⟨fun _ ω => Φ .non ω, Φ, fun _ _ => False, fun _ _ => False, fun _ _ _ => False⟩ := by
  rintro ds ω Φ ⟨a, ha, rfl, hA, h⟩
  unfold b_InHand___init__ cl_InHand
  walk_at "t_w"
  exact h
theorem hw_InHand_called : ∀ ds ω Φ, W_InHand_called ds ω Φ → (b_InHand_called : BS K).w (startD 1 ds) ω ⟨fun _ ω => Φ .non ω, Φ, fun _ _ => False, fun _ _ => False, fun _ _ _ => False⟩ := by
  rintro ds ω Φ ⟨d, rfl, h⟩
  exact h
theorem hw_InHand_says : ∀ ds ω Φ, W_InHand_says ds ω Φ → (b_InHand_says : BS K).w (startD 2 ds) ω ⟨fun _ ω => Φ .non ω, Φ, fun _ _ => False, fun _ _ => False, fun _ _ _ => False⟩ := by
  rintro ds ω Φ ⟨a, ha, h, k, rfl, hA, hR, q⟩
  have hi := hR.i
  unfold handF at hA
  unfold b_InHand_says cl_InHand k_LAST_STAMP
  walk_at "t_w"
  refine ⟨ha, h, k, 999999999, rfl, hR, fun ω' r g hN => ?_⟩
  cases r with
  | none =>
    unfold oE
    walk_at "t_w"
    refine q _ ω' g ⟨fun z => by simp at z, fun z => ?_⟩
    obtain ⟨e, he, ek, es⟩ := z
    have := hN.no rfl e he ek
    omega
  | some e =>
    unfold oE eD
    walk_at "t_w"
    obtain ⟨h1, h2, h3, _⟩ := hN.yes e rfl
    exact q _ ω' g ⟨fun _ => ⟨e, h1, h2, h3⟩, fun _ => by simp⟩
theorem hw_InHand_find : ∀ ds ω Φ, W_InHand_find ds ω Φ → (b_InHand_find : BS K).w (startD 3 ds) ω ⟨fun _ ω => Φ .non ω, Φ, fun _ _ => False, fun _ _ => False, fun _ _ _ => False⟩ := by
  rintro ds ω Φ ⟨a, ha, h, k, s, rfl, hA, hR, q⟩
  have hi := hR.i
  unfold handF at hA
  unfold b_InHand_find cl_InHand
  walk_at "t_w"
  exact ⟨ha, h, k, s, rfl, hR, fun ω' r g hN => q ω' r g hN⟩
theorem hw_InHand_between : ∀ ds ω Φ, W_InHand_between ds ω Φ → (b_InHand_between : BS K).w (startD 3 ds) ω ⟨fun _ ω => Φ .non ω, Φ, fun _ _ => False, fun _ _ => False, fun _ _ _ => False⟩ := by
  rintro ds ω Φ ⟨a, ha, h, lo, hi, rfl, hA, hO, q⟩
  have hi := hO.r.i
  unfold handF at hA
  unfold b_InHand_between cl_InHand
  walk_at "t_w"
  exact ⟨ha, h, lo, _, rfl, hO.r, hO.n, hO.z, fun ω' r L g hn hL hr => q ω' r L g hn hL hr⟩
theorem hw_InRun___init__ : ∀ ds ω Φ, W_InRun___init__ ds ω Φ → (b_InRun___init__ : BS K).w (startD 3 ds) ω ⟨fun _ ω => Φ .non ω, Φ, fun _ _ => False, fun _ _ => False, fun _ _ _ => False⟩ := by
  rintro ds ω Φ ⟨a, n, rs, b, rfl, hA, h⟩
  unfold b_InRun___init__ cl_InRun
  refine w_seq ?_
  walk_at "t_w"
  have h2 : (ω.set a (.ins "InRun" [("number", .int n)])) a = some (.ins "InRun" [("number", .int n)]) := Om.set_same
  try walk_at "t_w"
  try rw [Om.set_set]
  exact h
theorem hw_InRun_called : ∀ ds ω Φ, W_InRun_called ds ω Φ → (b_InRun_called : BS K).w (startD 1 ds) ω ⟨fun _ ω => Φ .non ω, Φ, fun _ _ => False, fun _ _ => False, fun _ _ _ => False⟩ := by
  rintro ds ω Φ ⟨a, n, rs, b, rfl, hA, h0, h1, h⟩
  unfold runF at hA
  unfold b_InRun_called cl_InRun
  walk_at "t_w"
  exact ⟨n, rfl, h0, h1, h⟩
theorem hw_InRun_says : ∀ ds ω Φ, W_InRun_says ds ω Φ → (b_InRun_says : BS K).w (startD 2 ds) ω ⟨fun _ ω => Φ .non ω, Φ, fun _ _ => False, fun _ _ => False, fun _ _ _ => False⟩ := by
  rintro ds ω Φ ⟨a, n, rs, b, k, rfl, hA, h⟩
  unfold runF at hA
  unfold b_InRun_says cl_InRun
  unfold runD sieveD at hA
  walk_at "t_w"
  rw [x_may (sz_pos _)]
  exact h
theorem hw_InRun_find : ∀ ds ω Φ, W_InRun_find ds ω Φ → (b_InRun_find : BS K).w (startD 3 ds) ω ⟨fun _ ω => Φ .non ω, Φ, fun _ _ => False, fun _ _ => False, fun _ _ _ => False⟩ := by
  rintro ds ω Φ ⟨a, n, rs, b, k, s, rfl, hA, hr, hb, hk, hz, h⟩
  unfold runF at hA
  unfold b_InRun_find cl_InRun
  walk_at "t_w"
  exact c_find hr hb hk hz h
theorem hw_InRun_between : ∀ ds ω Φ, W_InRun_between ds ω Φ → (b_InRun_between : BS K).w (startD 3 ds) ω ⟨fun _ ω => Φ .non ω, Φ, fun _ _ => False, fun _ _ => False, fun _ _ _ => False⟩ := by
  rintro ds ω Φ ⟨a, n, rs, b, lo, hi, rfl, hA, hr, hb, hlo, hhi, h⟩
  unfold runF at hA
  unfold b_InRun_between cl_InRun
  walk_at "t_w"
  exact c_between hr hlo hhi h
end
section
variable {K : Fg} {ω : Om} {Φ : D → Om → Prop}
theorem sOf_inj {s t : List Nat} (h : sOf s = sOf t) : s = t := by have := congrArg cs h; rwa [cs_sOf2, cs_sOf2] at this
end
section
variable {K : Fg} {ω : Om} {Φ : D → Om → Prop} {Ψ : Exn → Om → Prop} {s : Addr} {A : SAd} {S : SSt}
theorem Own.some (R : StoreR ω s A S) {b : Addr} (h : Own s A b) : ω b ≠ none := by
  rcases h with rfl | rfl | rfl | rfl | rfl | h
  · rw [R.i]; simp
  · rw [R.k.i]; simp
  · rw [R.k.d]; simp
  · rw [R.r]; simp
  · rw [R.l]; simp
  · rcases h with rfl | rfl | ⟨r, hr, rfl⟩
    · rw [R.h.i]; simp
    · rw [R.h.d]; simp
    · rw [R.h.r r hr]; simp
theorem HandR.of {ω ω' : Om} {a : Addr} {h : HSt} (R : HandR ω a h) (e : ∀ b, HA a h b → ω' b = ω b) : HandR ω' a h :=
  ⟨(e _ (.inl rfl)).trans R.i, (e _ (.inr (.inl rfl))).trans R.d, fun r hr => (e _ (.inr (.inr ⟨r, hr, rfl⟩))).trans (R.r r hr), R.nd, R.nk, R.ns, R.z⟩
theorem DiskR.of {ω ω' : Om} {g d : Addr} {k : DSt} (R : DiskR ω g d k) (e1 : ω' g = ω g) (e2 : ω' d = ω d) : DiskR ω' g d k := ⟨e1.trans R.i, e2.trans R.d, R.nk, R.t, R.z⟩
theorem StoreR.of {ω' : Om} (R : StoreR ω s A S) (e : ∀ b, Own s A b → ω' b = ω b) : StoreR ω' s A S :=
  ⟨(e _ (.inl rfl)).trans R.i, R.k.of (e _ (.inr (.inl rfl))) (e _ (.inr (.inr (.inl rfl)))), (e _ (.inr (.inr (.inr (.inl rfl))))).trans R.r, R.h.of fun b hb => e b (.inr (.inr (.inr (.inr (.inr hb))))), R.ho, (e _ (.inr (.inr (.inr (.inr (.inl rfl)))))).trans R.l, R.nd⟩
theorem StoreR.grow {ω' : Om} (R : StoreR ω s A S) (g : Grow ω ω') : StoreR ω' s A S := R.of fun b hb => g b (hb.some R)
theorem Nxt.refl : Nxt ω s A ω A := ⟨⟨rfl, rfl, rfl, rfl, rfl⟩, fun b h => .inl (.inr (.inr (.inr (.inr (.inr h))))), fun _ _ _ => rfl⟩
theorem Nxt.grow {ω' : Om} (R : StoreR ω s A S) (g : Grow ω ω') : Nxt ω s A ω' A := ⟨⟨rfl, rfl, rfl, rfl, rfl⟩, fun b h => .inl (.inr (.inr (.inr (.inr (.inr h))))), fun b _ h => g b h⟩
theorem Nxt.owns {ω' : Om} {A' : SAd} (n : Nxt ω s A ω' A') {b : Addr} (h : Own s A' b) : Own s A b ∨ ω b = none := by
  obtain ⟨e1, e2, e3, e4, e5⟩ := n.e
  rcases h with h | h | h | h | h | h
  · exact .inl (.inl h)
  · exact .inl (.inr (.inl (h.trans e1)))
  · exact .inl (.inr (.inr (.inl (h.trans e2))))
  · exact .inl (.inr (.inr (.inr (.inl (h.trans e3)))))
  · exact .inl (.inr (.inr (.inr (.inr (.inl (h.trans e5))))))
  · rw [e4] at h; exact n.own b h
theorem Nxt.trans {ω' ω'' : Om} {A' A'' : SAd} (n : Nxt ω s A ω' A') (m : Nxt ω' s A' ω'' A'') : Nxt ω s A ω'' A'' := by
  refine ⟨⟨m.e.1.trans n.e.1, m.e.2.1.trans n.e.2.1, m.e.2.2.1.trans n.e.2.2.1, m.e.2.2.2.1.trans n.e.2.2.2.1, m.e.2.2.2.2.trans n.e.2.2.2.2⟩, fun b h => ?_, fun b ho hn => ?_⟩
  · rw [← n.e.2.2.2.1] at h
    rcases m.own b h with h | h
    · exact n.owns h
    · by_cases c : Own s A b
      · exact .inl c
      · by_cases c2 : ω b = none
        · exact .inr c2
        · exact absurd ((n.off b c c2).symm.trans h) c2
  · have e := n.off b ho hn
    refine (m.off b (fun z => ?_) (by rw [e]; exact hn)).trans e
    rcases n.owns z with z | z
    · exact ho z
    · exact hn z
theorem Dead.after {ω' ω'' : Om} {A' : SAd} {k : DSt} (n : Nxt ω s A ω' A') (m : Dead ω' s A' k ω'') : Dead ω s A k ω'' := by
  refine ⟨by rw [← n.e.1, ← n.e.2.1]; exact m.g, m.e, fun b ho hn => ?_⟩
  have e := n.off b ho hn
  refine (m.off b (fun z => ?_) (by rw [e]; exact hn)).trans e
  rcases n.owns z with z | z
  · exact ho z
  · exact hn z
theorem StoreR.ne (R : StoreR ω s A S) : s ≠ A.g ∧ s ≠ A.d ∧ s ≠ A.kr ∧ s ≠ A.sl ∧ s ≠ A.ha ∧ ¬ HA A.ha A.h s ∧ A.g ≠ A.d ∧ A.g ≠ A.kr ∧ A.g ≠ A.sl ∧ ¬ HA A.ha A.h A.g ∧ A.d ≠ A.kr ∧ A.d ≠ A.sl ∧ ¬ HA A.ha A.h A.d ∧ A.kr ≠ A.sl ∧ ¬ HA A.ha A.h A.kr ∧ ¬ HA A.ha A.h A.sl := by
  have i := R.i
  have kg := R.k.i
  have kd := R.k.d
  have r := R.r
  have hi := R.h.i
  have hd := R.h.d
  have hr := R.h.r
  have l := R.l
  have nd := R.nd
  unfold dCell at kg
  rw [List.nodup_cons, List.nodup_cons] at nd
  have ap : ∀ {a b : Addr} {x y : Cell}, ω a = some x → ω b = some y → x ≠ y → a ≠ b := fun h1 h2 h3 e => by
    rw [e, h2] at h1
    exact h3 (Option.some.inj h1).symm
  have notH : ∀ {a : Addr} {x : Cell}, ω a = some x → (∀ kvs, x ≠ .dk kvs) → (∀ fs, x ≠ .ins "Hand" fs) → ¬ HA A.ha A.h a := fun h1 h2 h3 z => by
    rcases z with rfl | rfl | ⟨q, hq, rfl⟩
    · rw [hi] at h1; exact h3 _ (Option.some.inj h1).symm
    · rw [hd] at h1; exact h2 _ (Option.some.inj h1).symm
    · rw [hr q hq] at h1; exact h2 _ (Option.some.inj h1).symm
  have dkH : ∀ {a : Addr} {kvs}, ω a = some (.dk kvs) → a ∉ A.h.d :: A.h.rs.map (·.a) → ¬ HA A.ha A.h a := fun h1 h2 z => by
    rcases z with rfl | rfl | ⟨q, hq, rfl⟩
    · rw [hi] at h1; cases h1
    · exact h2 List.mem_cons_self
    · exact h2 (List.mem_cons_of_mem _ (List.mem_map_of_mem hq))
  have sH : ("Store" : Str) ≠ "Hand" := by decide
  have dH : ("Disk" : Str) ≠ "Hand" := by decide
  have sD : ("Store" : Str) ≠ "Disk" := by decide
  refine ⟨ap i kg (by simp [sD]), ap i kd (by simp), ap i r (by simp), ap i l (by simp), ap i hi (by simp [sH]), notH i (by simp) (by simp [sH]), ap kg kd (by simp), ap kg r (by simp), ap kg l (by simp), notH kg (by simp) (by simp [dH]), fun e => nd.1 (by rw [e]; exact List.mem_cons_self), ap kd l (by simp), dkH kd fun z => nd.1 (List.mem_cons_of_mem _ z), ap r l (by simp), dkH r nd.2.1, notH l (by simp) (by simp)⟩
theorem StoreR.fld (R : StoreR ω s A S) {S' : SSt} (e1 : S'.k = S.k) (e2 : S'.runs = S.runs) (e3 : S'.hand = S.hand) (e4 : S'.stamps = S.stamps) : StoreR (ω.set s (.ins "Store" (sFs A S'))) s A S' := by
  obtain ⟨n1, n2, n3, n4, n5, n6, -⟩ := R.ne
  refine ⟨Om.set_same, ?_, ?_, ?_, by rw [e3]; exact R.ho, ?_, R.nd⟩
  · rw [e1]; exact R.k.of (Om.set_ne (Ne.symm n1)) (Om.set_ne (Ne.symm n2))
  · rw [e2, Om.set_ne (Ne.symm n3)]; exact R.r
  · exact R.h.of fun b hb => Om.set_ne fun e => n6 (e ▸ hb)
  · rw [e4, Om.set_ne (Ne.symm n4)]; exact R.l
theorem Nxt.fld {c : Cell} : Nxt ω s A (ω.set s c) A := ⟨⟨rfl, rfl, rfl, rfl, rfl⟩, fun b h => .inl (.inr (.inr (.inr (.inr (.inr h))))), fun b h _ => Om.set_ne fun e => h (.inl e)⟩
theorem StoreR.kept (R : StoreR ω s A S) (runs' : List (Int × List Ent)) : StoreR (ω.set A.kr (.dk (rDk runs'))) s A { S with runs := runs' } := by
  obtain ⟨n1, n2, n3, n4, n5, n6, n7, n8, n9, n10, n11, n12, n13, n14, n15, n16⟩ := R.ne
  refine ⟨(Om.set_ne n3).trans R.i, R.k.of (Om.set_ne n8) (Om.set_ne n11), Om.set_same, R.h.of fun b hb => Om.set_ne fun e => n15 (e ▸ hb), R.ho, (Om.set_ne (Ne.symm n14)).trans R.l, R.nd⟩
theorem Nxt.kept {c : Cell} : Nxt ω s A (ω.set A.kr c) A := ⟨⟨rfl, rfl, rfl, rfl, rfl⟩, fun b h => .inl (.inr (.inr (.inr (.inr (.inr h))))), fun b h _ => Om.set_ne fun e => h (.inr (.inr (.inr (.inl e))))⟩
theorem StoreR.hnd {ω' : Om} {h' : HSt} {L : List Ent} (R : StoreR ω s A S) (H' : HandR ω' A.ha h') (hL : HRows h' L) (own : ∀ b, HA A.ha h' b → HA A.ha A.h b ∨ ω b = none) (off : ∀ b, ¬ HA A.ha A.h b → ω b ≠ none → ω' b = ω b) : StoreR ω' s { A with h := h' } { S with hand := L } := by
  obtain ⟨n1, n2, n3, n4, n5, n6, n7, n8, n9, n10, n11, n12, n13, n14, n15, n16⟩ := R.ne
  have q : ∀ {b : Addr} {c : Cell}, ¬ HA A.ha A.h b → ω b = some c → ω' b = some c := fun h e => (off _ h (by rw [e]; simp)).trans e
  have out : ∀ {b : Addr} {c : Cell}, ¬ HA A.ha A.h b → ω b = some c → b ∉ h'.d :: h'.rs.map (·.a) := fun h e z => by
    rcases List.mem_cons.mp z with rfl | z
    · rcases own _ (.inr (.inl rfl)) with z | z
      · exact h z
      · rw [z] at e; cases e
    · obtain ⟨r, hr, rfl⟩ := List.mem_map.mp z
      rcases own _ (.inr (.inr ⟨r, hr, rfl⟩)) with z | z
      · exact h z
      · rw [z] at e; cases e
  refine ⟨q n6 R.i, R.k.of (off _ n10 (by rw [R.k.i]; simp)) (off _ n13 (by rw [R.k.d]; simp)), q n15 R.r, H', hL, q n16 R.l, ?_⟩
  show (A.d :: A.kr :: h'.d :: h'.rs.map (·.a)).Nodup
  rw [List.nodup_cons, List.nodup_cons]
  refine ⟨fun z => ?_, out n15 R.r, H'.nd⟩
  rcases List.mem_cons.mp z with z | z
  · exact n11 z
  · exact out n13 R.k.d z
theorem Nxt.hnd {ω' : Om} {h' : HSt} (own : ∀ b, HA A.ha h' b → HA A.ha A.h b ∨ ω b = none) (off : ∀ b, ¬ HA A.ha A.h b → ω b ≠ none → ω' b = ω b) : Nxt ω s A ω' { A with h := h' } :=
  ⟨⟨rfl, rfl, rfl, rfl, rfl⟩, fun b h => (own b h).imp (fun z => .inr (.inr (.inr (.inr (.inr z))))) id, fun b h hn => off b (fun z => h (.inr (.inr (.inr (.inr (.inr z)))))) hn⟩
end
section
variable {K : Fg} {ω : Om} {Φ : D → Om → Prop} {Ψ : Exn → Om → Prop} {s : Addr} {A : SAd} {S : SSt} {ks : List (List Nat)} {n : Nat}
theorem look_mem : ∀ {runs : List (Int × List Ent)} {x : Int}, x ∈ runs.map (·.1) → ∃ rs, runs.lookup x = some rs ∧ (x, rs) ∈ runs
  | [], _, h => by cases h
  | (y, rs) :: r, x, h => by
    by_cases e : x = y
    · subst e
      exact ⟨rs, by simp [List.lookup], List.mem_cons_self⟩
    · have hb : (x == y) = false := beq_eq_false_iff_ne.mpr e
      rcases List.mem_cons.mp h with h | h
      · exact absurd h e
      · obtain ⟨q, h1, h2⟩ := look_mem h
        exact ⟨q, by simp only [List.lookup, hb]; exact h1, List.mem_cons_of_mem _ h2⟩
theorem Wf0.look (w : Wf0 ks n S) {x : Int} (h : x ∈ S.nums) : ∃ rs, S.runs.lookup x = some rs ∧ (x, rs) ∈ S.runs ∧ runOf S.runs x = rs := by
  obtain ⟨rs, h1, h2⟩ := look_mem (w.rk.mem_iff.mpr h)
  exact ⟨rs, h1, h2, by unfold runOf; rw [h1]; rfl⟩
theorem RunsAt.mono {ω ω' : Om} {ps : List Addr} {ns : List Int} {runs : List (Int × List Ent)} (h : RunsAt ω ps ns runs) (e : ∀ p c fs, ω p = some (.ins c fs) → ω' p = some (.ins c fs)) : RunsAt ω' ps ns runs := ⟨h.len, fun i p m h1 h2 => e _ _ _ (h.at_ i p m h1 h2)⟩
end
section
variable {K : Fg} {ω : Om} {Φ : D → Om → Prop} {Ψ : Exn → Om → Prop} {s : Addr} {A : SAd} {S : SSt} {ks : List (List Nat)} {n : Nat}
def PartOk (ω : Om) (A : SAd) (p : Addr) (es : List Ent) : Prop := (ω p = some (handF A.ha) ∧ HandR ω A.ha A.h ∧ HRows A.h es) ∨ ∃ m, ω p = some (runF m es (bitsOf es)) ∧ RowsW es
theorem HandR.grow {ω ω' : Om} {a : Addr} {h : HSt} (R : HandR ω a h) (g : Grow ω ω') : HandR ω' a h := R.of fun b hb => g b (by
  rcases hb with rfl | rfl | ⟨r, hr, rfl⟩
  · rw [R.i]; simp
  · rw [R.d]; simp
  · rw [R.r r hr]; simp)
theorem PartOk.grow {ω' : Om} {p : Addr} {es : List Ent} (h : PartOk ω A p es) (g : Grow ω ω') : PartOk ω' A p es := by
  rcases h with ⟨h1, h2, h3⟩ | ⟨m, h1, h2⟩
  · exact .inl ⟨(g p (by rw [h1]; simp)).trans h1, h2.grow g, h3⟩
  · exact .inr ⟨m, (g p (by rw [h1]; simp)).trans h1, h2⟩
structure PartsR (ω : Om) (A : SAd) (ps : List Addr) (Es : List (List Ent)) : Prop where
  len : ps.length = Es.length
  at_ : ∀ (i : Nat) p es, ps[i]? = some p → Es[i]? = some es → PartOk ω A p es
theorem PartsR.grow {ω' : Om} {ps : List Addr} {Es : List (List Ent)} (h : PartsR ω A ps Es) (g : Grow ω ω') : PartsR ω' A ps Es := ⟨h.len, fun i p es h1 h2 => (h.at_ i p es h1 h2).grow g⟩
def SSt.Es (S : SSt) : List (List Ent) := S.hand :: S.nums.map (runOf S.runs)
theorem Wf0.rw (w : Wf0 ks n S) {x : Int} (h : x ∈ S.nums) : RowsW (runOf S.runs x) := by
  obtain ⟨rs, h1, h2, h3⟩ := w.look h
  rw [h3]; exact (w.rr _ h2).1
structure Cov (outs : List (Option Ent)) (es : List Ent) (q : List Nat) (i : Int) : Prop where
  a : ∀ e, some e ∈ outs → e ∈ es ∧ e.1 = q ∧ e.2.1 ≤ i
  b : ∀ x ∈ es, x.1 = q → x.2.1 ≤ i → ∃ e, some e ∈ outs ∧ x.2.1 ≤ e.2.1
theorem Cov.skip {outs : List (Option Ent)} {es fs : List Ent} {q : List Nat} {i : Int} (h : Cov outs es q i) (no : ∀ x ∈ fs, x.1 = q → ¬ x.2.1 ≤ i) : Cov outs (es ++ fs) q i :=
  ⟨fun e he => ⟨List.mem_append_left _ (h.a e he).1, (h.a e he).2⟩, fun x hx h1 h2 => by
    rcases List.mem_append.mp hx with hx | hx
    · exact h.b x hx h1 h2
    · exact absurd h2 (no x hx h1)⟩
theorem Cov.add {outs : List (Option Ent)} {es fs : List Ent} {q : List Nat} {i : Int} {r : Option Ent} (h : Cov outs es q i) (hr : Newest fs q i r) : Cov (outs ++ [r]) (es ++ fs) q i := by
  refine ⟨fun e he => ?_, fun x hx h1 h2 => ?_⟩
  · rcases List.mem_append.mp he with he | he
    · exact ⟨List.mem_append_left _ (h.a e he).1, (h.a e he).2⟩
    · obtain ⟨a, b, c, _⟩ := hr.yes e (List.mem_singleton.mp he).symm
      exact ⟨List.mem_append_right _ a, b, c⟩
  · rcases List.mem_append.mp hx with hx | hx
    · obtain ⟨e, a, b⟩ := h.b x hx h1 h2
      exact ⟨e, List.mem_append_left _ a, b⟩
    · cases r with
      | none =>
        have := hr.no rfl x hx h1
        omega
      | some m => exact ⟨m, List.mem_append_right _ (List.mem_singleton.mpr rfl), (hr.yes m rfl).2.2.2 x hx h1 h2⟩
theorem Cov.new {outs : List (Option Ent)} {es : List Ent} {q : List Nat} {i : Int} (h : Cov outs es q i) {r : Option Ent} (h0 : r = none → ∀ e, some e ∉ outs) (h1 : ∀ m, r = some m → some m ∈ outs ∧ ∀ e, some e ∈ outs → e.2.1 ≤ m.2.1) : Newest es q i r := by
  refine ⟨fun e x hx k => ?_, fun m e => ?_⟩
  · by_cases c : x.2.1 ≤ i
    · obtain ⟨y, hy, _⟩ := h.b x hx k c
      exact absurd hy (h0 e y)
    · omega
  · obtain ⟨a, b⟩ := h1 m e
    obtain ⟨c1, c2, c3⟩ := h.a m a
    refine ⟨c1, c2, c3, fun x hx k l => ?_⟩
    obtain ⟨y, hy, hl⟩ := h.b x hx k l
    have := b y hy
    omega
theorem no_may {rs : List Ent} {q : List Nat} (h : mayB rs (bitsOf rs) q = false) : ∀ e ∈ rs, e.1 ≠ q := fun e he k => by
  have := may_all (marks_bits rs) he
  rw [k] at this
  unfold mayB at h
  rw [this] at h; cases h
end
section
variable {K : Fg} {ω : Om} {Φ : D → Om → Prop} {Ψ : Exn → Om → Prop} {s : Addr} {A : SAd} {S : SSt} {ks : List (List Nat)} {n : Nat}
theorem Wf0.hand (w : Wf0 ks n S) (R : StoreR ω s A S) : OkHand ω A.ha A.h := by
  have hk : ∀ e ∈ S.hand, e.1 ∈ ks := fun e he => (w.e e (List.mem_append_left _ he)).2.1
  have h1 := hand_keys R.h R.ho hk
  have h2 := w.kk.1
  have h3 : S.hand.length ≤ S.all.length := by unfold SSt.all; rw [List.length_append]; omega
  have h4 := w.z
  have h5 := w.nn
  exact ⟨R.h, by omega, by rw [← R.ho.1.length_eq]; omega⟩
theorem OkHand.grow {ω' : Om} {a : Addr} {h : HSt} (o : OkHand ω a h) (g : Grow ω ω') : OkHand ω' a h := ⟨o.r.grow g, o.n, o.z⟩
end
section
variable {K : Fg} {ω : Om} {Φ : D → Om → Prop} {Ψ : Exn → Om → Prop} {s : Addr} {A : SAd} {S : SSt} {ks : List (List Nat)} {n : Nat}
theorem newest_uniq {es : List Ent} {q : List Nat} {i : Int} {r r' : Option Ent} (d : Dist es) (h : Newest es q i r) (g : Newest es q i r') : r = r' := by
  have tw : ∀ {m m' : Ent}, Newest es q i (some m) → Newest es q i (some m') → m = m' := fun {m m'} h g => by
    obtain ⟨a, b, c, e⟩ := h.yes m rfl
    obtain ⟨a', b', c', e'⟩ := g.yes m' rfl
    have h1 := e m' a' b' c'
    have h2 := e' m a b c
    by_cases z : m = m'
    · exact z
    · obtain ⟨j, hj, rfl⟩ := List.getElem_of_mem a
      obtain ⟨k, hk, rfl⟩ := List.getElem_of_mem a'
      have hd := List.pairwise_iff_getElem.mp d
      rcases Nat.lt_trichotomy j k with l | l | l
      · exact absurd ⟨b.trans b'.symm, by omega⟩ (hd j k hj hk l)
      · subst l; rfl
      · exact absurd ⟨b'.trans b.symm, by omega⟩ (hd k j hk hj l)
  cases r with
  | none =>
    cases r' with
    | none => rfl
    | some m =>
      obtain ⟨a, b, c, _⟩ := g.yes m rfl
      have := h.no rfl m a b
      omega
  | some m =>
    cases r' with
    | none =>
      obtain ⟨a, b, c, _⟩ := h.yes m rfl
      have := g.no rfl m a b
      omega
    | some m' => rw [tw h g]
end
section
variable {K : Fg} {ω : Om} {Φ : D → Om → Prop} {Ψ : Exn → Om → Prop} {s : Addr} {A : SAd} {S : SSt} {ks : List (List Nat)} {n : Nat}
theorem lc_filtG {α : Type} {ρ : En} {g : BG K} {T1 : BT K} {B : BE K} {chk : Om → Prop} {F : List D → Om → Prop} (mk f : α → D) (p : α → Bool) (ns : List α) (hz : ns.length ≤ 16777216) (hc : chk ω)
    (h : ∀ n ∈ ns, ∀ (Q : D → Om → Prop) (M : Om → Prop), (p n = true → Q (f n) ω) → (p n = false → M ω) → g.w (mk n) ρ ω fun ρ1 ω1 => T1.w ρ1 ω1 (fun b ω2 => if b = true then B.w ρ1 ω2 Q X0 else M ω2) X0)
    (hF : F ((ns.filter p).map f) ω) : lcGo chk g T1 B ρ F (ns.map mk) [] ω := by
  have key : ∀ (ns : List α) (acc : List D), acc.length + ns.length ≤ 16777216 → (∀ n ∈ ns, ∀ (Q : D → Om → Prop) (M : Om → Prop), (p n = true → Q (f n) ω) → (p n = false → M ω) → g.w (mk n) ρ ω fun ρ1 ω1 => T1.w ρ1 ω1 (fun b ω2 => if b = true then B.w ρ1 ω2 Q X0 else M ω2) X0) → F (acc ++ (ns.filter p).map f) ω → lcGo chk g T1 B ρ F (ns.map mk) acc ω := by
    intro ns
    induction ns with
    | nil => intro acc _ _ hF; exact ⟨hc, by simpa using hF⟩
    | cons n r ih =>
      intro acc hz h hF
      refine ⟨hc, h n List.mem_cons_self (fun y ω3 => acc.length < sizeLine ∧ lcGo chk g T1 B ρ F (r.map mk) (acc ++ [y]) ω3) (fun ω2 => lcGo chk g T1 B ρ F (r.map mk) acc ω2) (fun e => ?_) fun e => ?_⟩
      · refine ⟨by rw [sizeLine_eq]; simp at hz; omega, ih _ (by simp at hz ⊢; omega) (fun m hm => h m (List.mem_cons_of_mem _ hm)) ?_⟩
        rw [List.filter_cons, if_pos e] at hF
        simpa using hF
      · refine ih _ (by simp at hz ⊢; omega) (fun m hm => h m (List.mem_cons_of_mem _ hm)) ?_
        rw [List.filter_cons, if_neg (by rw [e]; exact Bool.false_ne_true)] at hF
        exact hF
  exact key ns [] (by simpa using hz) h (by simpa using hF)
theorem lst_ref {a : Addr} {ds : List D} (h : ω a = some (.lst ds)) : lstOf ω (.ref a) = some ds := by
  simp only [lstOf, h]
end
section
variable {K : Fg} {ω : Om} {Φ : D → Om → Prop} {Ψ : Exn → Om → Prop} {s : Addr} {A : SAd} {S : SSt} {ks : List (List Nat)} {n : Nat}
def SSt.hl (S : SSt) : List Ent := leftL S.hand (ssOf S.stamps) (S.a.isEmpty && S.b.isEmpty && S.c.isEmpty)
end
section
variable {K : Fg} {ω : Om} {Φ : D → Om → Prop} {Ψ : Exn → Om → Prop} {s : Addr} {A : SAd} {S : SSt} {ks : List (List Nat)} {n : Nat}
def SSt.dn (S : SSt) (lo : Bool) : List Int := if lo then S.b ++ S.c else S.a ++ S.b
end
section
variable {S S' : SSt} {ks : List (List Nat)} {n : Nat}
def SSt.F (S : SSt) (l : List Int) : List Ent := (l.map (runOf S.runs)).flatten
def SSt.keep (S : SSt) (lo : Bool) : List Int := if lo then S.a else S.c
end
section
variable {S S' : SSt} {ks : List (List Nat)} {n : Nat}
def SSt.tell (S : SSt) (ds : List Deed) : SSt := { S with k := S.k.fill (appF S.k.fs jn (recT ⟨S.last + 1, ds⟩)), last := S.last + 1, hand := putsH S.hand (entsOf (S.last + 1) ds) }
end
section
variable {S S' : SSt} {ks : List (List Nat)} {n : Nat}
structure Ords (S : SSt) : Prop where
  ab : ∀ x ∈ S.F S.a, ∀ y ∈ S.F (S.b ++ S.c), y.2.1 < x.2.1
  bc : ∀ x ∈ S.F S.b, ∀ y ∈ S.F S.c, y.2.1 < x.2.1
end
section
variable {S S' : SSt} {ks : List (List Nat)} {n : Nat}
def Keeps (S S' : SSt) : Prop := ∀ (q : List Nat) (i : Int), (i ∈ S.stamps ∨ S.last ≤ i) → ∀ r, Newest S.all q i r → ∃ r', Newest S'.all q i r' ∧ r'.bind (·.2.2) = r.bind (·.2.2)
theorem Keeps.refl (S : SSt) : Keeps S S := fun q i _ r h => ⟨r, h, rfl⟩
theorem Keeps.trans {S1 S2 : SSt} (h : Keeps S S1) (g : Keeps S1 S2) (e1 : S1.stamps = S.stamps) (e2 : S1.last = S.last) : Keeps S S2 := fun q i hi r hr => by
  obtain ⟨r1, h1, h2⟩ := h q i hi r hr
  obtain ⟨r2, g1, g2⟩ := g q i (by rw [e1, e2]; exact hi) r1 h1
  exact ⟨r2, g1, g2.trans h2⟩
end
section
variable {S S' : SSt} {ks : List (List Nat)} {n : Nat}
def lastD (ds : List Deed) (q : List Nat) : Option (Option (List Nat)) := (ds.reverse.find? fun d => decide (d.1 = q)).map (·.2)
def valH (H : List (List Deed)) (q : List Nat) : Option (List Nat) := H.foldl (fun v ds => (lastD ds q).getD v) none
structure Hist (H : List (List Deed)) (S : SSt) : Prop where
  l : S.last = (H.length : Nat)
  v : ∀ (q : List Nat) (i : Int), (i ∈ S.stamps ∨ S.last ≤ i) → ∃ r, Newest S.all q i r ∧ r.bind (·.2.2) = valH (H.take i.toNat) q
end
section
variable {S S' : SSt} {ks : List (List Nat)} {n : Nat}
def DSt.calm (k : DSt) : Prop := k.last = none ∧ k.ended = false
structure Sto (ks : List (List Nat)) (n : Nat) (H : List (List Deed)) (S : SSt) : Prop where
  w : Wf ks n S
  o : Ords S
  h : Hist H S
  c : S.k.calm
end
end G
namespace G
open PySem L2 T
local macro_rules | `(tactic| walk_at "t_side") => `(tactic| first | assumption | omega | decide | (simp only [List.length_append, List.length_cons, List.length_nil, List.length_map, List.length_flatten, List.length_replicate]; done) | (simp only [List.length_append, List.length_cons, List.length_nil, List.length_map, List.length_flatten, List.length_replicate]; omega))
local macro_rules | `(tactic| walk_at "t_x1") => `(tactic| simp (disch := (walk_at "t_side")) only [↓x_frz, ↓x_neE0, ↓x_neE1, ↓x_eqE0, ↓x_eqE1, ↓y_fld, ↓y_sfld, ↓y_meth, ↓x_make, ↓x_refW, ↓x_insW, ↓y_lk0, ↓y_lk1, ↓y_lkn, ↓y_pt0, ↓y_pt1, ↓y_ptn, ↓y_wX, ↓y_tab1, ↓y_tab2, ↓y_set0, ↓y_set1, ↓x_dget2, ↓x_dsetd, ↓x_dpop, ↓x_kvW, ↓x_dkOf1, ↓x_dkOf2, ↓x_dg1W, ↓x_keyS, ↓x_keyI, ↓x_bdget, ↓x_dgetW1, ↓x_dgetW2, ↓x_bdput, ↓x_dputK1, ↓x_dputK2, ↓x_lenK, ↓x_listK0, ↓x_sortS0, ↓y_dictC, ↓y_sortK1, ↓y_sortK0, ↓x_din, ↓x_dnewK, ↓x_raiseF, ↓x_conK, ↓y_remI, ↓x_biItemsA, ↓x_dget1, ↓x_biKeysF, ↓x_frzW, ↓x_kwL, ↓x_kEnv, ↓x_vo0, ↓x_vo1, ↓x_raise, ↓x_callX, ↓x_tryI, ↓x_isE, ↓x_isXW, ↓x_fE, ↓x_xfW, ↓x_exD0, ↓x_exD1, ↓x_hds0, ↓x_hdsY, ↓x_hdsN, ↓x_slotN, ↓x_slotS, ↓x_delN, ↓x_delS, ↓y_endD, ↓x_optS, ↓x_cL, ↓x_cI, ↓x_cK, ↓x_sz, ↓x_rg1, ↓x_rg2, ↓x_varS, ↓x_var, ↓x_addS, ↓x_addT, ↓x_addL, ↓x_addOL, ↓x_mul, ↓x_mulS, ↓x_mulLF, ↓x_mulLT, ↓x_div, ↓x_mod, ↓x_pow4, ↓x_pow5, ↓x_pow6, ↓x_pow7, ↓x_pow9, ↓x_pow12, ↓x_pow60, ↓x_shr, ↓x_isT, ↓x_isF, ↓x_isNT, ↓x_isNF, ↓x_isN, ↓x_isNN, ↓x_non0, ↓x_non1, ↓x_non2, ↓x_non3, ↓x_non4, ↓x_non5, ↓x_non6, ↓x_ixS, ↓x_ixT, ↓x_ixC, ↓x_ixL, ↓x_ixR, ↓x_at0, ↓x_at1, ↓x_at2, ↓x_at3, ↓x_at4, ↓x_at5, ↓x_at6, ↓x_at7, ↓x_at8, ↓x_at9, ↓x_at10, ↓x_slS, ↓x_slL, ↓x_slLO, ↓x_slC, ↓x_slR, ↓x_slRO, ↓x_in, ↓x_nin, ↓x_truS, ↓x_lenS, ↓x_lenR, ↓x_isW0, ↓x_isW1, ↓x_isW2, ↓x_isW3, ↓x_isW4, ↓x_isW5, ↓x_isTii, ↓x_isTbi, ↓x_isTbb, ↓x_isTib, ↓x_isTss, ↓x_isTtt, ↓x_isTll, ↓x_isTnt, ↓x_isTst, ↓x_isTit, ↓x_isTlt, ↓x_isTbt, ↓x_isTni, ↓x_isTns, ↓x_isTis, ↓x_isTbs, ↓x_isTts, ↓x_isTls, ↓x_isTsi, ↓x_isTti, ↓x_isTli, ↓x_isTtl, ↓x_gT, ↓x_itR, ↓x_truR, ↓x_setS, ↓x_setN, ↓x_it, ↓x_con, ↓x_lit, ↓x_int, ↓x_op, ↓x_add, ↓x_sub, ↓x_neg, ↓x_lt, ↓x_le, ↓x_gt, ↓x_ge, ↓x_ltS, ↓x_leS, ↓x_gtS, ↓x_geS, ↓x_eqI, ↓x_eqS, ↓x_eqB, ↓x_neI, ↓x_neS, ↓x_neB, ↓x_eqN, ↓x_neN, ↓x_eqIN, ↓x_eqNI, ↓x_eqSN, ↓x_eqNS, ↓x_isB, ↓x_isNB, ↓x_sl, ↓x_oN, ↓x_oS, ↓x_slT, ↓x_baN, ↓x_baC, ↓x_tup, ↓x_lst, ↓x_lstO, ↓x_tru, ↓x_truB, ↓x_truN, ↓x_truI, ↓x_truT, ↓x_truL, ↓x_tC, ↓x_tB, ↓x_tand, ↓x_tor, ↓x_tnot, ↓x_yes, ↓x_and, ↓x_or, ↓x_not, ↓x_if, ↓x_chain, ↓x_bl, ↓x_cb, ↓x_lenT, ↓x_lenL, ↓x_lenC, ↓x_max, ↓x_min, ↓x_isi, ↓x_frz, ↓x_next, ↓x_break, ↓x_cont, ↓x_asg, ↓x_gsN, ↓x_gsC, ↓x_drop, ↓x_ret, ↓x_retN, ↓x_sif, ↓x_for, ↓x_seqI, ↓x_itL, ↓x_itT, ↓x_itC, ↓x_itS, ↓x_r1, ↓x_r2, ↓x_dk, ↓x_dt, ↓x_lc, ↓x_lcO, ↓x_need, ↓x_seqL, ↓x_seqT, ↓x_seqC, ↓x_seqR, ↓x_lstL, ↓x_lstR, ↓x_ints, ↓x_ints0, ↓x_ints1, ↓x_strs, ↓x_strs0, ↓x_strs1, ↓x_bls, ↓x_bls0, ↓x_bls1, ↓x_omap, ↓x_cl, ↓x_clO, ↓x_ctu, ↓x_strI, ↓x_strS, ↓x_intI, ↓x_intB, ↓x_intS, ↓x_ord, ↓x_sum, ↓x_maxL, ↓x_minL, ↓x_any, ↓x_all2, ↓x_bM, ↓x_bM0, ↓x_tyS, ↓x_tyL, ↓x_tyR, ↓x_tyC0, ↓x_tyC1, ↓x_tyC2, ↓x_needE, ↓x_app, ↓x_ext, ↓x_pop, ↓x_popAt, ↓x_rev, ↓x_clr, ↓x_ins, ↓x_split, ↓x_part, ↓x_join, ↓x_zf, ↓x_sidx, ↓x_eqE0, ↓x_eqE1, ↓x_set0, ↓x_set1, ↓x_gNs, ↓x_augs, ↓x_vr0, ↓x_vr1, ↓x_oa0, ↓x_oa1, ↓x_oa2, ↓x_oa3, ↓x_oa4, ↓x_oa5, ↓x_oa6, ↓x_oa7, ↓x_oa8, ↓x_oa9, ↓x_oa10, ↓x_cLS, ↓x_cLN, ↓x_ssL, ↓x_ssT, ↓x_ssC, ↓x_slsL, ↓x_oi, ↓x_oi0, ↓x_oi1, ↓x_os, ↓x_os0, ↓x_os1, ↓x_ob, ↓x_ob0, ↓x_ob1, ↓x_ntS, ↓x_ntL, ↓x_ntR, ↓x_ntN, ↓x_cutT1, ↓x_cutT2, ↓x_cutT0, ↓x_cutF1, ↓x_cutF2, ↓x_cutF3, ↓x_gT2, ↓x_gT3, ↓x_gT4, ↓x_gT5, ↓x_apd0, ↓x_apd1, ↓x_call0, ↓x_callD, ↓x_mulT, ↓x_fmt, ↓x_strW, ↓x_join2, ↓x_birev, ↓x_bienum, ↓x_lxL, ↓x_bizip, ↓x_lxZ, ↓x_birevS, ↓x_lxx0, ↓x_lxx1, ↓x_lxx2, ↓x_no, ↓x_band, ↓x_bor, ↓x_bxor, ↓x_shl, ↓x_cbk, ↓x_maxD, ↓x_sortI, ↓x_sortIo, ↓x_lenSetI, ↓x_ninR, ↓x_inR, ↓x_eqRL, ↓x_neRL, ↓x_gSub, ↓x_gsW, ↓x_sel, ↓x_sortKF, ↓x_sortKT, ↓x_one1, ↓x_itV, ↓x_kwL, ↓x_kwF, ↓x_kEnv, ↓x_vo0, ↓x_vo1, ↓x_revLF, ↓x_revLT, List.map_cons, List.map_nil, List.set_cons_zero, List.set_cons_succ, List.getElem?_cons_zero, List.getElem?_cons_succ, List.length_cons, List.length_nil, List.replicate, List.cons_append, List.nil_append, start_def, decide_eq_true_eq, Bool.not_eq_true, Bool.not_eq_true', Bool.and_eq_true, Bool.or_eq_true, decide_eq_false_iff_not, Bool.not_not, Bool.not_true, Bool.not_false, ↓reduceIte, wipeD, Bool.false_eq_true, reduceCtorEq, Nat.reduceSub, Nat.reduceAdd, and_true, true_and, List.isEmpty_cons, List.isEmpty_nil, not_true_eq_false, not_false_eq_true, or_false, or_true, true_or, false_or, and_false, false_and, Bool.true_or, Bool.false_or, Bool.or_true, Bool.or_false, Bool.true_and, Bool.and_true, Bool.false_and, Bool.and_false, bne_iff_ne, ne_eq, implies_true, List.append_nil, Int.cast_ofNat_Int, Int.reduceEq, Int.reduceLT, Int.reduceLE, Int.reduceAdd, Int.reduceSub, Int.reduceMul, Int.reduceNeg, Int.reduceToNat, decide_true, decide_false, Int.reduceMod, Int.reduceDiv, Nat.reduceMul, List.flatten_nil, List.flatten_cons])
local macro_rules | `(tactic| walk_at "t_x") => `(tactic| ((try (simp only [start_def]; simp only [List.map_cons, List.map_nil, List.length_cons, List.length_nil, Nat.reduceAdd, Nat.reduceSub, List.replicate, List.cons_append, List.nil_append])); try (walk_at "t_x1"; try walk_at "t_x1")))
local macro_rules | `(tactic| walk_at "t_f") => `(tactic| first | with_reducible refine insW_at (by assumption) ?_ | with_reducible refine cK_at (by assumption) ?_ | with_reducible refine cL_at (by assumption) ?_ | with_reducible refine kv_at (by assumption) ?_ | with_reducible refine tyL_at (by assumption) ?_ | with_reducible refine tyK_at (by assumption) ?_)
local macro_rules | `(tactic| walk_at "t_w") => `(tactic| (walk_at "t_x"; repeat (walk_at "t_f"; walk_at "t_x")))
section
variable {K : Fg} {ω : Om} {Φ : D → Om → Prop} {Ψ : Exn → Om → Prop}
theorem hw__law_whole : ∀ ds ω Φ, W__law_whole ds ω Φ → (b__law_whole : BS K).w (startD 1 ds) ω ⟨fun _ ω => Φ .non ω, Φ, fun _ _ => False, fun _ _ => False, fun _ _ _ => False⟩ := by
  rintro ds ω Φ ⟨i, rfl, h⟩
  unfold b__law_whole
  walk_at "t_w"
  exact h
theorem hw__law_stream : ∀ ds ω Φ, W__law_stream ds ω Φ → (b__law_stream : BS K).w (startD 5 ds) ω ⟨fun _ ω => Φ .non ω, Φ, fun _ _ => False, fun _ _ => False, fun _ _ _ => False⟩ := by
  rintro ds ω Φ ⟨c, n, rfl, h0, h1, h⟩
  unfold b__law_stream
  refine w_seq ?_
  walk_at "t_x"
  intro r hr
  refine w_seq ?_
  walk_at "t_x"
  have a0 := Int.emod_nonneg c (b := 2147483647) (by omega)
  have a1 := Int.emod_lt_of_pos c (b := 2147483647) (by omega)
  generalize c % 2147483647 = v at a0 a1
  refine w_cut (fun ρ1 ω1 => ∃ (L : List Int) (x y : Option D), ω1 = ω.set r (.lst (L.map .int)) ∧ (L.length : Int) = n ∧ (∀ x ∈ L, 0 ≤ x ∧ x < 2147483647) ∧ ρ1 = [some (.int c), some (.int n), some (.ref r), x, y]) (fun N hN => ?_) ?_
  · walk_at "t_x"
    refine for_go (fun i ρ1 ω1 => ∃ (L : List Int) (v : Int) (y : Option D), 0 ≤ v ∧ v < 2147483647 ∧ ω1 = ω.set r (.lst (L.map .int)) ∧ L.length = i ∧ (∀ x ∈ L, 0 ≤ x ∧ x < 2147483647) ∧ ρ1 = [some (.int c), some (.int n), some (.ref r), some (.int v), y]) ?_ ?_ ⟨[], v, none, a0, a1, rfl, rfl, by simp, rfl⟩
    · rintro i d ρ1 ω1 M hd ⟨L, v, y, v0, v1, rfl, hL, hx, rfl⟩ hM
      obtain ⟨hi, rfl⟩ := rngD_get hd
      refine ⟨trivial, ?_⟩
      walk_at "t_x"
      refine w_seq ?_
      walk_at "t_x"
      have b0 := Int.emod_nonneg (v * 48271 + 11 + (0 + (i : Nat))) (b := 2147483647) (by omega)
      have b1 := Int.emod_lt_of_pos (v * 48271 + 11 + (0 + (i : Nat))) (b := 2147483647) (by omega)
      rw [Om.set_set, show List.map D.int L ++ [D.int ((v * 48271 + 11 + (0 + (i : Nat))) % 2147483647 )] = (L ++ [(v * 48271 + 11 + (0 + (i : Nat))) % 2147483647]).map .int by simp]
      refine hM _ _ ⟨_, _, _, b0, b1, rfl, by simp [hL], fun x hx' => ?_, rfl⟩
      rcases List.mem_append.mp hx' with hx' | hx'
      · exact hx x hx'
      · rw [List.mem_singleton.mp hx']; omega
    · rintro ρ1 ω1 ⟨L, v, y, v0, v1, rfl, hL, hx, rfl⟩
      refine ⟨trivial, hN _ _ ⟨L, _, _, rfl, ?_, hx, rfl⟩⟩
      rw [rngD_len] at hL; omega
  · rintro ρ1 ω1 ⟨L, x, y, rfl, hL, hx, rfl⟩
    walk_at "t_x"
    exact h L hL hx r hr
theorem signs_ok : (S_abffc9 ++ [97, 98, 99, 100, 101, 102, 103, 104, 105, 106, 107, 108, 109, 110, 111, 112, 113, 114, 115, 116, 117, 118, 119, 120, 121, 122, 123, 124, 125, 126]).all okc = true := by decide +kernel
theorem hw__law_sign : ∀ ds ω Φ, W__law_sign ds ω Φ → (b__law_sign : BS K).w (startD 2 ds) ω ⟨fun _ ω => Φ .non ω, Φ, fun _ _ => False, fun _ _ => False, fun _ _ _ => False⟩ := by
  rintro ds ω Φ ⟨n, rfl, h⟩
  unfold b__law_sign
  have hl := S_abffc9_len
  refine w_seq ?_
  walk_at "t_x"
  refine w_seq ?_
  walk_at "t_x"
  refine opt_rest (by omega) (by rw [List.length_append, hl]; decide) fun c hc => ?_
  exact h c (List.all_eq_true.mp signs_ok c hc)
theorem c_sign {n : Int} (h : ∀ c : Nat, okc c = true → Φ (.str [c]) ω) : W__law_sign [.int n] ω Φ := ⟨n, rfl, h⟩
end
section
variable {K : Fg} {ω : Om} {Φ : D → Om → Prop} {Ψ : Exn → Om → Prop}
theorem hw__law_text : ∀ ds ω Φ, W__law_text ds ω Φ → (b__law_text : BS K).w (startD 4 ds) ω ⟨fun _ ω => Φ .non ω, Φ, fun _ _ => False, fun _ _ => False, fun _ _ _ => False⟩ := by
  rintro ds ω Φ ⟨n, m, rfl, h1, h2, h⟩
  unfold b__law_text
  refine w_seq ?_
  walk_at "t_w"
  have a0 := Int.emod_nonneg n (b := 4) (by omega)
  generalize n % 4 = q at a0
  refine w_cut (fun ρ1 ω1 => ω = ω1 ∧ ∃ k : Int, 0 ≤ k ∧ ρ1 = [some (.int n), some (.int m), some (.int k), none]) (fun N hN => ?_) ?_
  · walk_at "t_w"
    split
    · have b0 := Int.emod_nonneg (n / 16) (b := m + 1) (by omega)
      walk_at "t_w"
      exact hN _ _ ⟨rfl, _, by omega, rfl⟩
    · exact hN _ _ ⟨rfl, _, by omega, rfl⟩
  · rintro _ _ ⟨rfl, k, k0, rfl⟩
    walk_at "t_w"
    refine ⟨_, _, rfl, by omega, by omega, fun L hL hx r hr => ?_⟩
    simp only [Om.set_same, del_new hr]
    refine lc_go (fun i acc ω1 => ω1 = ω ∧ ∃ u : List Nat, acc = (u.map fun c => [c]).map .str ∧ u.length = i ∧ u.all okc = true) ?_ ?_ ⟨rfl, [], rfl, rfl, rfl⟩
    · rintro i d acc _ N hd ⟨rfl, u, rfl, hu, ho⟩ hN
      refine ⟨trivial, ?_⟩
      obtain ⟨hi, _⟩ := List.getElem?_eq_some_iff.mp hd
      rw [List.length_map] at hi
      rw [List.getElem?_map, Option.map_eq_some_iff] at hd
      obtain ⟨x, _, rfl⟩ := hd
      walk_at "t_x"
      refine c_sign fun c hc => ⟨by rw [sizeLine_eq]; simp; omega, ?_⟩
      refine hN _ _ ⟨rfl, u ++ [c], by simp, by simp [hu], by simp [ho, hc]⟩
    · rintro acc _ ⟨rfl, u, rfl, hu, ho⟩
      rw [List.length_map] at hu
      refine ⟨trivial, ?_⟩
      walk_at "t_x"
      have e : (u.map fun c => [c]).flatten = u := by
        clear hu ho
        induction u with
        | nil => rfl
        | cons c r ih => simp [ih]
      rw [joinL_nil', e, x_need (by rw [Nat.mul_zero, Nat.add_zero, ← List.length_flatten, e]; omega)]
      exact h u ho (by omega)
end
section
variable {K : Fg} {ω : Om} {Φ : D → Om → Prop} {Ψ : Exn → Om → Prop}
theorem c_ltext {x m : Int} (h1 : 0 ≤ m) (h2 : m ≤ 100) (h : ∀ s : List Nat, s.all okc = true → (s.length : Int) ≤ m → Φ (.str s) ω) : W__law_text [.int x, .int m] ω Φ := ⟨x, m, rfl, h1, h2, h⟩
theorem nin_words {v : List Nat} {a : Addr} {ws : List (List Nat)} (ha : ω a = some (.lst (ws.map .str))) (h : ∀ b, Φ (.bl b) ω) : (oIn true : O2 K).w (.str v) (.ref a) ω Φ := by
  have fl : (ws.map D.str).all flatD = true := List.all_eq_true.mpr fun d hd => by
    obtain ⟨j, _, rfl⟩ := List.mem_map.mp hd
    rfl
  have key : ∃ ds, lstOf ω (.ref a) = some ds ∧ flatD (.str v) = true ∧ ds.all flatD = true ∧ Φ (.bl (if true = true then !ds.any fun e => eqF e (.str v) else ds.any fun e => eqF e (.str v))) ω := ⟨_, lstOf_ref.mpr ha, rfl, fl, h _⟩
  exact key
theorem cut_last (w : List Nat) : cut w none (some (-1)) = w.take (w.length - 1) := by
  unfold cut HT.sIx
  simp only [List.drop_zero, Nat.sub_zero]
  rw [if_pos (by omega)]
  congr 1
  omega
theorem hw__law_keys : ∀ ds ω Φ, W__law_keys ds ω Φ → (b__law_keys : BS K).w (startD 7 ds) ω ⟨fun _ ω => Φ .non ω, Φ, fun _ _ => False, fun _ _ => False, fun _ _ _ => False⟩ := by
  rintro ds ω Φ ⟨c, m, rfl, m0, m1, h⟩
  unfold b__law_keys
  refine w_cut (fun ρ1 ω1 => ∃ a w, ω a = none ∧ okK 20 w ∧ ω1 = ω.set a (.lst [.str w]) ∧ ρ1 = [some (.int c), some (.int m), some (.ref a), none, none, none, none]) (fun N hN => ?_) ?_
  · walk_at "t_w"
    refine c_sign fun d hd => ?_
    walk_at "t_w"
    refine c_ltext (by omega) (by omega) fun s s1 s2 => ?_
    walk_at "t_w"
    intro a ha
    refine hN _ _ ⟨a, d :: s, ha, ⟨by rw [List.all_cons, hd, s1]; rfl, by simp, by simp only [List.length_cons]; omega⟩, rfl, rfl⟩
  rintro _ _ ⟨a, w0, ha, hw0, rfl, rfl⟩
  refine w_cut (fun ρ1 ω1 => ∃ ws y3 y4 y5 y6, Words ws ∧ ω1 = ω.set a (.lst (ws.map .str)) ∧ ρ1 = [some (.int c), some (.int m), some (.ref a), y3, y4, y5, y6]) (fun N hN => ?_) ?_
  · walk_at "t_w"
    refine ⟨_, _, rfl, by omega, by omega, fun L hL hx r hr => ?_⟩
    simp only [Om.set_same, del_new hr]
    refine for_go (fun i ρ1 ω1 => ∃ ws y3 y4 y5 y6, 1 ≤ ws.length ∧ ws.length ≤ i + 1 ∧ (∀ w ∈ ws, okK 20 w) ∧ ω1 = ω.set a (.lst (ws.map .str)) ∧ ρ1 = [some (.int c), some (.int m), some (.ref a), y3, y4, y5, y6]) ?_ ?_ ⟨[w0], none, none, none, none, by simp, by simp, fun w hw => by rw [List.mem_singleton.mp hw]; exact hw0, rfl, rfl⟩
    · rintro i d _ _ M hd ⟨ws, y3, y4, y5, y6, n1, n2, ok, rfl, rfl⟩ hM
      obtain ⟨hi, _⟩ := List.getElem?_eq_some_iff.mp hd
      rw [List.length_map] at hi
      rw [List.getElem?_map, Option.map_eq_some_iff] at hd
      obtain ⟨x, hx0, rfl⟩ := hd
      refine ⟨trivial, ?_⟩
      refine w_gN ?_
      simp only [List.set_cons_succ, List.set_cons_zero]
      refine w_cut (fun ρ1 ω1 => ω1 = ω.set a (.lst (ws.map .str)) ∧ ∃ w, okK 20 w ∧ ρ1 = [some (.int c), some (.int m), some (.ref a), some (.int x), some (.str w), y5, y6]) (fun N hN => ?_) ?_
      · walk_at "t_w"
        refine opt_rest (by rw [List.length_map]; omega) (Int.le_refl _) fun d hd => ?_
        obtain ⟨w, hw1, rfl⟩ := List.mem_map.mp hd
        exact hN _ _ ⟨rfl, w, ok w hw1, rfl⟩
      rintro _ _ ⟨rfl, w, ow, rfl⟩
      obtain ⟨w1, w2, w3⟩ := id ow
      have w1 := List.all_eq_true.mp w1
      have k0 := Int.emod_nonneg (x / 64) (b := ((w.length : Nat) : Int)) (by omega)
      have k1 := Int.emod_lt_of_pos (x / 64) (b := ((w.length : Nat) : Int)) (by omega)
      refine w_cut (fun ρ1 ω1 => ω1 = ω.set a (.lst (ws.map .str)) ∧ ∃ k : Int, 0 ≤ k ∧ k < (w.length : Nat) ∧ ρ1 = [some (.int c), some (.int m), some (.ref a), some (.int x), some (.str w), some (.int k), y6]) (fun N hN => ?_) ?_
      · walk_at "t_w"
        exact hN _ _ ⟨rfl, _, k0, k1, rfl⟩
      rintro _ _ ⟨rfl, k, k0, k1, rfl⟩
      refine w_cut (fun ρ1 ω1 => ω1 = ω.set a (.lst (ws.map .str)) ∧ ∃ v, okK 20 v ∧ ρ1 = [some (.int c), some (.int m), some (.ref a), some (.int x), some (.str w), some (.int k), some (.str v)]) (fun N hN => ?_) ?_
      · walk_at "t_w"
        rw [cut_to _ k0]
        refine c_sign fun e he => ?_
        walk_at "t_w"
        rw [cut_from _ (by omega)]
        have t1 : (w.take k.toNat).length ≤ 20 := by rw [List.length_take]; omega
        have t2 : (w.drop (k + 1).toNat).length ≤ 20 := by rw [List.length_drop]; omega
        walk_at "t_w"
        refine hN _ _ ⟨rfl, _, ⟨List.all_eq_true.mpr fun z hz => ?_, ?_, ?_⟩, rfl⟩
        · simp only [List.mem_append, List.mem_singleton] at hz
          rcases hz with (hz | hz) | hz
          · exact w1 z (List.mem_of_mem_take hz)
          · rw [hz]; exact he
          · exact w1 z (List.mem_of_mem_drop hz)
        · simp only [List.length_append, List.length_take, List.length_drop, List.length_singleton]; omega
        · simp only [List.length_append, List.length_take, List.length_drop, List.length_singleton]; omega
      rintro _ _ ⟨rfl, v, ov, rfl⟩
      refine w_cut (fun ρ1 ω1 => ω1 = ω.set a (.lst (ws.map .str)) ∧ ∃ v, okK 20 v ∧ ρ1 = [some (.int c), some (.int m), some (.ref a), some (.int x), some (.str w), some (.int k), some (.str v)]) (fun N hN => ?_) ?_
      · by_cases c1 : x % 4 = 1 ∧ ((w.length : Nat) : Int) < 20
        · refine w_sifB true (fun F hF => ?_) (iteT ?_)
          · walk_at "t_w"
            rw [if_pos c1.1, decide_eq_true c1.2]
            exact hF
          walk_at "t_w"
          refine c_sign fun e he => ?_
          walk_at "t_w"
          refine hN _ _ ⟨rfl, w ++ [e], ⟨List.all_eq_true.mpr fun z hz => ?_, by simp, by rw [List.length_append, List.length_singleton]; omega⟩, rfl⟩
          rcases List.mem_append.mp hz with hz | hz
          · exact w1 z hz
          · rw [List.mem_singleton.mp hz]; exact he
        · refine w_sifB false (fun F hF => ?_) (iteF (w_next ?_))
          · walk_at "t_w"
            by_cases c2 : x % 4 = 1
            · rw [if_pos c2, decide_eq_false (fun z => c1 ⟨c2, z⟩)]
              exact hF
            · rw [if_neg c2]
              exact hF
          exact hN _ _ ⟨rfl, v, ov, rfl⟩
      rintro _ _ ⟨rfl, v, ov, rfl⟩
      refine w_cut (fun ρ1 ω1 => ω1 = ω.set a (.lst (ws.map .str)) ∧ ∃ v, okK 20 v ∧ ρ1 = [some (.int c), some (.int m), some (.ref a), some (.int x), some (.str w), some (.int k), some (.str v)]) (fun N hN => ?_) ?_
      · by_cases c1 : x % 4 = 2 ∧ 1 < ((w.length : Nat) : Int)
        · refine w_sifB true (fun F hF => ?_) (iteT ?_)
          · walk_at "t_w"
            rw [if_pos c1.1, decide_eq_true c1.2]
            exact hF
          walk_at "t_w"
          rw [cut_last]
          exact hN _ _ ⟨rfl, _, ⟨List.all_eq_true.mpr fun z hz => w1 z (List.mem_of_mem_take hz), by rw [List.length_take]; omega, by rw [List.length_take]; omega⟩, rfl⟩
        · refine w_sifB false (fun F hF => ?_) (iteF (w_next ?_))
          · walk_at "t_w"
            by_cases c2 : x % 4 = 2
            · rw [if_pos c2, decide_eq_false (fun z => c1 ⟨c2, z⟩)]
              exact hF
            · rw [if_neg c2]
              exact hF
          exact hN _ _ ⟨rfl, v, ov, rfl⟩
      rintro _ _ ⟨rfl, v, ov, rfl⟩
      refine w_cut (fun ρ1 ω1 => ω1 = ω.set a (.lst (ws.map .str)) ∧ ∃ v, okK 20 v ∧ ρ1 = [some (.int c), some (.int m), some (.ref a), some (.int x), some (.str w), some (.int k), some (.str v)]) (fun N hN => ?_) ?_
      · by_cases c1 : x % 4 = 3
        · refine w_sifB true (fun F hF => ?_) (iteT ?_)
          · walk_at "t_w"
            rw [decide_eq_true c1]
            exact hF
          walk_at "t_w"
          refine c_sign fun d hd => ?_
          walk_at "t_w"
          refine c_ltext (by omega) (by omega) fun s s1 s2 => ?_
          walk_at "t_w"
          exact hN _ _ ⟨rfl, d :: s, ⟨by rw [List.all_cons, hd, s1]; rfl, by simp, by simp only [List.length_cons]; omega⟩, rfl⟩
        · refine w_sifB false (fun F hF => ?_) (iteF (w_next ?_))
          · walk_at "t_w"
            rw [decide_eq_false c1]
            exact hF
          exact hN _ _ ⟨rfl, v, ov, rfl⟩
      rintro _ _ ⟨rfl, v, ov, rfl⟩
      walk_at "t_w"
      refine nin_words Om.set_same fun b => ?_
      walk_at "t_w"
      have n3 : ws.length ≤ 41 := by omega
      cases b with
      | false =>
        walk_at "t_w"
        exact hM _ _ ⟨ws, _, _, _, _, n1, by omega, ok, rfl, rfl⟩
      | true =>
        walk_at "t_w"
        rw [Om.set_set]
        refine hM _ _ ⟨ws ++ [v], _, _, _, _, by simp, by simp; omega, fun z hz => ?_, by rw [List.map_append]; rfl, rfl⟩
        rcases List.mem_append.mp hz with hz | hz
        · exact ok z hz
        · rw [List.mem_singleton.mp hz]; exact ov
    · rintro _ _ ⟨ws, y3, y4, y5, y6, n1, n2, ok, rfl, rfl⟩
      rw [List.length_map] at n2
      exact ⟨trivial, hN _ _ ⟨ws, y3, y4, y5, y6, ⟨n1, by omega, ok⟩, rfl, rfl⟩⟩
  rintro _ _ ⟨ws, y3, y4, y5, y6, hw, rfl, rfl⟩
  walk_at "t_w"
  exact h ws a hw ha
end
section
def SSt.on (S : SSt) (k : DSt) : SSt := { S with k := k }
end
section
variable {ω : Om} {Φ : D → Om → Prop} {Ψ : Exn → Om → Prop} {s : Addr} {A : SAd} {S : SSt} {ks : List (List Nat)} {n : Nat} {m : List (List Nat × Option (List Nat))} {y : D} {i : Int} {H : List (List Deed)}
theorem w_sifM {K : Fg} {T1 : BT K} {S1 S2 : BS K} {ρ : En} {nx bk ct : En → Om → Prop} {rt : D → Om → Prop} {xc : Exn → En → Om → Prop} (c : Bool) (Mid : Om → Prop) (h : ∀ F : Bool → Om → Prop, (∀ ω', Mid ω' → F c ω') → T1.w ρ ω F fun x ω1 => xc x ρ ω1) (q : ∀ ω', Mid ω' → if c = true then S1.w ρ ω' ⟨nx, rt, bk, ct, xc⟩ else S2.w ρ ω' ⟨nx, rt, bk, ct, xc⟩) : (bsIf T1 S1 S2).w ρ ω ⟨nx, rt, bk, ct, xc⟩ := h _ q
theorem Nxt.at {ω' : Om} {A' : SAd} {b : Addr} {c : Cell} (N : Nxt ω s A ω' A') (h : ¬ Own s A b) (hb : ω b = some c) : ω' b = some c ∧ ¬ Own s A' b := ⟨(N.off b h (by rw [hb]; simp)).trans hb, fun z => by
  rcases N.owns z with z | z
  · exact h z
  · rw [hb] at z; cases z⟩
theorem Wf0.stamps {ss : List Int} (w : Wf0 ks n S) (h : ∀ x ∈ ss, 0 ≤ x ∧ x ≤ S.last) (z : ss.length < 64) : Wf0 ks n { S with stamps := ss } := ⟨w.w, w.f, w.kk, w.nn, w.e, w.d, w.z, w.ho, w.hs, w.rk, w.nd, w.nb, w.rr, w.dn, w.la, w.lb, w.lc, h, z, w.fl, w.jl, w.fr, w.al, w.kz⟩
theorem Wf.stamps {ss : List Int} (w : Wf ks n S) (h : ∀ x ∈ ss, 0 ≤ x ∧ x ≤ S.last) (z : ss.length < 64) : Wf ks n { S with stamps := ss } := ⟨w.toWf0.stamps h z, w.pf, w.pa, w.pk⟩
theorem Sto.stamps {ss : List Int} (t : Sto ks n H S) (h : ∀ x ∈ ss, x ∈ S.stamps ∨ x = S.last) (z : ss.length < 64) : Sto ks n H { S with stamps := ss } := ⟨t.w.stamps (fun x hx => by
  rcases h x hx with e | e
  · exact t.w.st x e
  · rw [e]
    have := t.w.dn
    omega) z, ⟨t.o.ab, t.o.bc⟩, ⟨t.h.l, fun q i hi => t.h.v q i (by
  rcases hi with hi | hi
  · rcases h i hi with e | e
    · exact .inl e
    · exact .inr (by rw [e]; exact Int.le_refl _)
  · exact .inr hi)⟩, t.c⟩
end
section
variable {K : Fg} {ω : Om} {Φ : D → Om → Prop} {Ψ : Exn → Om → Prop} {B : MAd} {S : SSt}
theorem ModR.of {ω' : Om} (R : ModR ω B S) (e : ∀ b, b = B.m ∨ b = B.hd ∨ b = B.rd ∨ b = B.ld → ω' b = ω b) : ModR ω' B S := by
  obtain ⟨hs, h1, h2⟩ := R.h
  exact ⟨(e _ (.inl rfl)).trans R.m, ⟨hs, by rw [e _ (.inr (.inl rfl))]; exact h1, h2⟩, (e _ (.inr (.inr (.inl rfl)))).trans R.r, (e _ (.inr (.inr (.inr rfl)))).trans R.l, R.mr⟩
theorem ModR.grow {ω' : Om} (R : ModR ω B S) (g : Grow ω ω') : ModR ω' B S := R.of fun b hb => g b (by
  obtain ⟨hs, h1, h2⟩ := R.h
  rcases hb with rfl | rfl | rfl | rfl
  · rw [R.m]; simp
  · intro z; rw [z] at h1; cases h1
  · rw [R.r]; simp
  · rw [R.l]; simp)
theorem ModR.lst {a : Addr} {xs : List D} (R : ModR ω B S) (h : ω a = some (.lst xs)) : a ≠ B.m ∧ a ≠ B.hd ∧ a ≠ B.rd := by
  obtain ⟨hs, h1, h2⟩ := R.h
  refine ⟨fun e => ?_, fun e => ?_, fun e => ?_⟩
  · rw [e, R.m] at h; cases h
  · rw [← e, h] at h1; cases h1
  · rw [e, R.r] at h; cases h
theorem ModR.runs (R : ModR ω B S) (rs : List (Int × List Ent)) : ModR (ω.set B.rd (.dk (rs.map rkv))) B { S with runs := rs } := by
  obtain ⟨hs, h1, h2⟩ := R.h
  refine ⟨by rw [Om.set_ne R.mr]; exact R.m, ⟨hs, by rw [Om.set_ne fun e => (by rw [e, R.r] at h1; cases h1)]; exact h1, h2⟩, Om.set_same, by rw [Om.set_ne fun e => (by have := R.l; rw [e, R.r] at this; cases this)]; exact R.l, R.mr⟩
theorem ModR.main {S' : SSt} (R : ModR ω B S) (e1 : S'.hand = S.hand) (e2 : S'.runs = S.runs) (e3 : S'.stamps = S.stamps) : ModR (ω.set B.m (.dk (sDk (mKs B S')))) B S' := by
  obtain ⟨hs, h1, h2⟩ := R.h
  refine ⟨Om.set_same, ⟨hs, by rw [Om.set_ne fun e => (by rw [e, R.m] at h1; cases h1)]; exact h1, by rw [e1]; exact h2⟩, by rw [Om.set_ne R.mr.symm, e2]; exact R.r, by rw [Om.set_ne fun e => (by have := R.l; rw [e, R.m] at this; cases this), e3]; exact R.l, R.mr⟩
end
section
variable {K : Fg} {ω : Om} {Φ : D → Om → Prop} {Ψ : Exn → Om → Prop} {B : MAd} {S : SSt} {ks : List (List Nat)} {n : Nat}
theorem ModR.frz {hs : List Ent} {o : Obj} {xs : List (List Key × V)} (R : ModR ω B S) (h : ω B.hd = some (.dt (hs.map hkv))) (hp : hs.Perm S.hand) : ModR (ω.set B.hd (.ft o xs (hs.map hkv))) B S := by
  refine ⟨by rw [Om.set_ne fun e => (by have := R.m; rw [e, h] at this; cases this)]; exact R.m, ⟨hs, by rw [Om.set_same]; rfl, hp⟩, by rw [Om.set_ne fun e => (by have := R.r; rw [e, h] at this; cases this)]; exact R.r, by rw [Om.set_ne fun e => (by have := R.l; rw [e, h] at this; cases this)]; exact R.l, R.mr⟩
end
section
variable {K : Fg} {ω : Om} {Φ : D → Om → Prop} {Ψ : Exn → Om → Prop} {B : MAd} {S : SSt} {ks : List (List Nat)} {n : Nat}
def putI2 (hs : List Ent) (e : Ent) : List Ent := if (hs.any fun x => decide (x.1 = e.1 ∧ x.2.1 = e.2.1)) = true then hs.map (fun x => if x.1 = e.1 ∧ x.2.1 = e.2.1 then e else x) else hs ++ [e]
theorem hk_iff {x e : Ent} : ((hkv x).1 = (hkv e).1) ↔ (x.1 = e.1 ∧ x.2.1 = e.2.1) := by
  constructor
  · intro y
    have y : ([.inr (sOf x.1), .inl x.2.1] : List Key) = [.inr (sOf e.1), .inl e.2.1] := y
    injection y with y1 y2
    injection y2 with y3 _
    injection y1 with y1
    injection y3 with y3
    exact ⟨sOf_inj y1, y3⟩
  · rintro ⟨h1, h2⟩
    show ([.inr (sOf x.1), .inl x.2.1] : List Key) = [.inr (sOf e.1), .inl e.2.1]
    rw [h1, h2]
theorem putI2_kv (hs : List Ent) (e : Ent) : putD (hs.map hkv) ([.inr (sOf e.1), .inl e.2.1] : List Key) (vD e.2.2) = (putI2 hs e).map hkv := by
  have ea : ((hs.map hkv).any fun p => decide (p.1 = ([.inr (sOf e.1), .inl e.2.1] : List Key))) = hs.any fun x => decide (x.1 = e.1 ∧ x.2.1 = e.2.1) := by
    rw [List.any_map]
    congr 1
    funext x
    show decide ((hkv x).1 = (hkv e).1) = _
    rw [decide_eq_decide]
    exact hk_iff
  unfold putD putI2
  rw [ea]
  split
  · rw [List.map_map, List.map_map]
    refine List.map_congr_left fun x _ => ?_
    show (if (hkv x).1 = (hkv e).1 then ((hkv x).1, vD e.2.2) else hkv x) = hkv (if x.1 = e.1 ∧ x.2.1 = e.2.1 then e else x)
    by_cases z : x.1 = e.1 ∧ x.2.1 = e.2.1
    · rw [if_pos z, if_pos (hk_iff.mpr z), hk_iff.mpr z]; rfl
    · rw [if_neg z, if_neg fun y => z (hk_iff.mp y)]
  · rw [List.map_append]; rfl
theorem dist_nodup {es : List Ent} (d : Dist es) : es.Nodup := d.imp fun {a b} h e => h ⟨by rw [e], by rw [e]⟩
theorem putI2_perm {hs : List Ent} (e : Ent) (d : Dist hs) : (putI2 hs e).Perm (putE hs e) := by
  have d2 : Dist (putI2 hs e) := by
    unfold putI2
    split
    · show List.Pairwise _ _
      rw [List.pairwise_map]
      have key : ∀ x : Ent, (if x.1 = e.1 ∧ x.2.1 = e.2.1 then e else x).1 = x.1 ∧ (if x.1 = e.1 ∧ x.2.1 = e.2.1 then e else x).2.1 = x.2.1 := fun x => by
        split
        · rename_i z; exact ⟨z.1.symm, z.2.symm⟩
        · exact ⟨rfl, rfl⟩
      refine d.imp fun {a b} h => ?_
      rw [(key a).1, (key a).2, (key b).1, (key b).2]
      exact h
    · rename_i z
      refine List.pairwise_append.mpr ⟨d, List.pairwise_singleton _ _, fun a ha b hb => ?_⟩
      rw [List.mem_singleton.mp hb]
      exact fun y => z (List.any_eq_true.mpr ⟨a, ha, decide_eq_true y⟩)
  refine (List.perm_ext_iff_of_nodup (dist_nodup d2) (dist_nodup (putE_d d))).mpr fun x => ?_
  have r : x ∈ putE hs e ↔ (x ∈ hs ∧ ¬ (x.1 = e.1 ∧ x.2.1 = e.2.1)) ∨ x = e := by
    unfold putE
    rw [List.mem_append, List.mem_filter, List.mem_singleton, Bool.not_eq_true', decide_eq_false_iff_not]
  rw [r]
  unfold putI2
  split
  · rename_i z
    obtain ⟨y0, hy0, hy1⟩ := List.any_eq_true.mp z
    have hy1 := of_decide_eq_true hy1
    rw [List.mem_map]
    constructor
    · rintro ⟨y, hy, rfl⟩
      split
      · exact .inr rfl
      · rename_i c; exact .inl ⟨hy, c⟩
    · rintro (⟨h1, h2⟩ | rfl)
      · exact ⟨x, h1, if_neg h2⟩
      · exact ⟨y0, hy0, if_pos hy1⟩
  · rename_i z
    rw [List.mem_append, List.mem_singleton]
    constructor
    · rintro (h | rfl)
      · exact .inl ⟨h, fun y => z (List.any_eq_true.mpr ⟨x, h, decide_eq_true y⟩)⟩
      · exact .inr rfl
    · rintro (h | rfl)
      · exact .inl h.1
      · exact .inr rfl
end
end G
namespace G
open PySem L2 T
local macro_rules | `(tactic| walk_at "t_side") => `(tactic| first | assumption | omega | decide | (simp only [List.length_append, List.length_cons, List.length_nil, List.length_map, List.length_flatten, List.length_replicate]; done) | (simp only [List.length_append, List.length_cons, List.length_nil, List.length_map, List.length_flatten, List.length_replicate]; omega))
local macro_rules | `(tactic| walk_at "t_x1") => `(tactic| simp (disch := (walk_at "t_side")) only [↓x_frz, ↓x_neE0, ↓x_neE1, ↓x_eqE0, ↓x_eqE1, ↓y_fld, ↓y_sfld, ↓y_meth, ↓x_make, ↓x_refW, ↓x_insW, ↓y_lk0, ↓y_lk1, ↓y_lkn, ↓y_pt0, ↓y_pt1, ↓y_ptn, ↓y_wX, ↓y_tab1, ↓y_tab2, ↓y_set0, ↓y_set1, ↓x_dget2, ↓x_dsetd, ↓x_dpop, ↓x_kvW, ↓x_dkOf1, ↓x_dkOf2, ↓x_dg1W, ↓x_keyS, ↓x_keyI, ↓x_bdget, ↓x_dgetW1, ↓x_dgetW2, ↓x_bdput, ↓x_dputK1, ↓x_dputK2, ↓x_lenK, ↓x_listK0, ↓x_sortS0, ↓y_dictC, ↓y_sortK1, ↓y_sortK0, ↓x_din, ↓x_dnewK, ↓x_raiseF, ↓x_conK, ↓y_remI, ↓x_biItemsA, ↓x_dget1, ↓x_biKeysF, ↓x_frzW, ↓x_biKeys, ↓x_sortSetIF, ↓x_sortKF, ↓x_one1, ↓x_isOwn, ↓x_mk0, ↓x_kwL, ↓x_kEnv, ↓x_vo0, ↓x_vo1, ↓x_raise, ↓x_callX, ↓x_tryI, ↓x_isE, ↓x_isXW, ↓x_fE, ↓x_xfW, ↓x_exD0, ↓x_exD1, ↓x_hds0, ↓x_hdsY, ↓x_hdsN, ↓x_slotN, ↓x_slotS, ↓x_delN, ↓x_delS, ↓y_endD, ↓x_optS, ↓x_cL, ↓x_cI, ↓x_cK, ↓x_sz, ↓x_rg1, ↓x_rg2, ↓x_varS, ↓x_var, ↓x_addS, ↓x_addT, ↓x_addL, ↓x_addOL, ↓x_mul, ↓x_mulS, ↓x_mulLF, ↓x_mulLT, ↓x_div, ↓x_mod, ↓x_pow4, ↓x_pow5, ↓x_pow6, ↓x_pow7, ↓x_pow9, ↓x_pow12, ↓x_pow60, ↓x_shr, ↓x_isT, ↓x_isF, ↓x_isNT, ↓x_isNF, ↓x_isN, ↓x_isNN, ↓x_non0, ↓x_non1, ↓x_non2, ↓x_non3, ↓x_non4, ↓x_non5, ↓x_non6, ↓x_ixS, ↓x_ixT, ↓x_ixC, ↓x_ixL, ↓x_ixR, ↓x_at0, ↓x_at1, ↓x_at2, ↓x_at3, ↓x_at4, ↓x_at5, ↓x_at6, ↓x_at7, ↓x_at8, ↓x_at9, ↓x_at10, ↓x_slS, ↓x_slL, ↓x_slLO, ↓x_slC, ↓x_slR, ↓x_slRO, ↓x_in, ↓x_nin, ↓x_truS, ↓x_lenS, ↓x_lenR, ↓x_isW0, ↓x_isW1, ↓x_isW2, ↓x_isW3, ↓x_isW4, ↓x_isW5, ↓x_isTii, ↓x_isTbi, ↓x_isTbb, ↓x_isTib, ↓x_isTss, ↓x_isTtt, ↓x_isTll, ↓x_isTnt, ↓x_isTst, ↓x_isTit, ↓x_isTlt, ↓x_isTbt, ↓x_isTni, ↓x_isTns, ↓x_isTis, ↓x_isTbs, ↓x_isTts, ↓x_isTls, ↓x_isTsi, ↓x_isTti, ↓x_isTli, ↓x_isTtl, ↓x_gT, ↓x_itR, ↓x_truR, ↓x_setS, ↓x_setN, ↓x_it, ↓x_con, ↓x_lit, ↓x_int, ↓x_op, ↓x_add, ↓x_sub, ↓x_neg, ↓x_lt, ↓x_le, ↓x_gt, ↓x_ge, ↓x_ltS, ↓x_leS, ↓x_gtS, ↓x_geS, ↓x_eqI, ↓x_eqS, ↓x_eqB, ↓x_neI, ↓x_neS, ↓x_neB, ↓x_eqN, ↓x_neN, ↓x_eqIN, ↓x_eqNI, ↓x_eqSN, ↓x_eqNS, ↓x_isB, ↓x_isNB, ↓x_sl, ↓x_oN, ↓x_oS, ↓x_slT, ↓x_baN, ↓x_baC, ↓x_tup, ↓x_lst, ↓x_lstO, ↓x_tru, ↓x_truB, ↓x_truN, ↓x_truI, ↓x_truT, ↓x_truL, ↓x_tC, ↓x_tB, ↓x_tand, ↓x_tor, ↓x_tnot, ↓x_yes, ↓x_and, ↓x_or, ↓x_not, ↓x_if, ↓x_chain, ↓x_bl, ↓x_cb, ↓x_lenT, ↓x_lenL, ↓x_lenC, ↓x_max, ↓x_min, ↓x_isi, ↓x_frz, ↓x_next, ↓x_break, ↓x_cont, ↓x_asg, ↓x_gsN, ↓x_gsC, ↓x_drop, ↓x_ret, ↓x_retN, ↓x_sif, ↓x_for, ↓x_seqI, ↓x_itL, ↓x_itT, ↓x_itC, ↓x_itS, ↓x_r1, ↓x_r2, ↓x_dk, ↓x_dt, ↓x_lc, ↓x_lcO, ↓x_need, ↓x_seqL, ↓x_seqT, ↓x_seqC, ↓x_seqR, ↓x_lstL, ↓x_lstR, ↓x_ints, ↓x_ints0, ↓x_ints1, ↓x_strs, ↓x_strs0, ↓x_strs1, ↓x_bls, ↓x_bls0, ↓x_bls1, ↓x_omap, ↓x_cl, ↓x_clO, ↓x_ctu, ↓x_strI, ↓x_strS, ↓x_intI, ↓x_intB, ↓x_intS, ↓x_ord, ↓x_sum, ↓x_maxL, ↓x_minL, ↓x_any, ↓x_all2, ↓x_bM, ↓x_bM0, ↓x_tyS, ↓x_tyL, ↓x_tyR, ↓x_tyC0, ↓x_tyC1, ↓x_tyC2, ↓x_needE, ↓x_app, ↓x_ext, ↓x_pop, ↓x_popAt, ↓x_rev, ↓x_clr, ↓x_ins, ↓x_split, ↓x_part, ↓x_join, ↓x_zf, ↓x_sidx, ↓x_eqE0, ↓x_eqE1, ↓x_set0, ↓x_set1, ↓x_gNs, ↓x_augs, ↓x_vr0, ↓x_vr1, ↓x_oa0, ↓x_oa1, ↓x_oa2, ↓x_oa3, ↓x_oa4, ↓x_oa5, ↓x_oa6, ↓x_oa7, ↓x_oa8, ↓x_oa9, ↓x_oa10, ↓x_cLS, ↓x_cLN, ↓x_ssL, ↓x_ssT, ↓x_ssC, ↓x_slsL, ↓x_oi, ↓x_oi0, ↓x_oi1, ↓x_os, ↓x_os0, ↓x_os1, ↓x_ob, ↓x_ob0, ↓x_ob1, ↓x_ntS, ↓x_ntL, ↓x_ntR, ↓x_ntN, ↓x_cutT1, ↓x_cutT2, ↓x_cutT0, ↓x_cutF1, ↓x_cutF2, ↓x_cutF3, ↓x_gT2, ↓x_gT3, ↓x_gT4, ↓x_gT5, ↓x_apd0, ↓x_apd1, ↓x_call0, ↓x_callD, ↓x_mulT, ↓x_fmt, ↓x_strW, ↓x_join2, ↓x_birev, ↓x_bienum, ↓x_lxL, ↓x_bizip, ↓x_lxZ, ↓x_birevS, ↓x_lxx0, ↓x_lxx1, ↓x_lxx2, ↓x_no, ↓x_band, ↓x_bor, ↓x_bxor, ↓x_shl, ↓x_cbk, ↓x_maxD, ↓x_sortI, ↓x_sortIo, ↓x_lenSetI, ↓x_ninR, ↓x_inR, ↓x_eqRL, ↓x_neRL, ↓x_gSub, ↓x_gsW, ↓x_sel, ↓x_sortKF, ↓x_sortKT, ↓x_one1, ↓x_itV, ↓x_kwL, ↓x_kwF, ↓x_kEnv, ↓x_vo0, ↓x_vo1, ↓x_revLF, ↓x_revLT, List.map_cons, List.map_nil, List.set_cons_zero, List.set_cons_succ, List.getElem?_cons_zero, List.getElem?_cons_succ, List.length_cons, List.length_nil, List.replicate, List.cons_append, List.nil_append, start_def, decide_eq_true_eq, Bool.not_eq_true, Bool.not_eq_true', Bool.and_eq_true, Bool.or_eq_true, decide_eq_false_iff_not, Bool.not_not, Bool.not_true, Bool.not_false, ↓reduceIte, wipeD, Bool.false_eq_true, reduceCtorEq, Nat.reduceSub, Nat.reduceAdd, and_true, true_and, List.isEmpty_cons, List.isEmpty_nil, not_true_eq_false, not_false_eq_true, or_false, or_true, true_or, false_or, and_false, false_and, Bool.true_or, Bool.false_or, Bool.or_true, Bool.or_false, Bool.true_and, Bool.and_true, Bool.false_and, Bool.and_false, bne_iff_ne, ne_eq, implies_true, List.append_nil, Int.cast_ofNat_Int, Int.reduceEq, Int.reduceLT, Int.reduceLE, Int.reduceAdd, Int.reduceSub, Int.reduceMul, Int.reduceNeg, Int.reduceToNat, decide_true, decide_false, Int.reduceMod, Int.reduceDiv, Nat.reduceMul, List.flatten_nil, List.flatten_cons])
local macro_rules | `(tactic| walk_at "t_x") => `(tactic| ((try (simp only [start_def]; simp only [List.map_cons, List.map_nil, List.length_cons, List.length_nil, Nat.reduceAdd, Nat.reduceSub, List.replicate, List.cons_append, List.nil_append])); try (walk_at "t_x1"; try walk_at "t_x1")))
local macro_rules | `(tactic| walk_at "t_f") => `(tactic| first | with_reducible refine insW_at (by assumption) ?_ | with_reducible refine cK_at (by assumption) ?_ | with_reducible refine cL_at (by assumption) ?_ | with_reducible refine kv_at (by assumption) ?_ | with_reducible refine tyL_at (by assumption) ?_ | with_reducible refine tyK_at (by assumption) ?_)
local macro_rules | `(tactic| walk_at "t_w") => `(tactic| (walk_at "t_x"; repeat (walk_at "t_f"; walk_at "t_x")))
section
variable {K : Fg} {ω : Om} {Φ : D → Om → Prop} {Ψ : Exn → Om → Prop}
theorem hw__law_value : ∀ ds ω Φ, W__law_value ds ω Φ → (b__law_value : BS K).w (startD 1 ds) ω ⟨fun _ ω => Φ .non ω, Φ, fun _ _ => False, fun _ _ => False, fun _ _ _ => False⟩ := by
  rintro ds ω Φ ⟨x, rfl, h⟩
  unfold b__law_value
  by_cases c : x % 3 = 0
  · refine w_seq (w_sifB true (fun F hF => ?_) (iteT ?_))
    · walk_at "t_w"
      rw [decide_eq_true c]; exact hF
    walk_at "t_w"
    exact h none (fun v e => by cases e)
  refine w_seq (w_sifB false (fun F hF => ?_) (iteF (w_next ?_)))
  · walk_at "t_w"
    rw [decide_eq_false c]; exact hF
  walk_at "t_w"
  refine c_ltext (by omega) (by omega) fun s s1 s2 => ?_
  exact h (some s) (fun v e => by cases e; exact ⟨s1, by omega⟩)
theorem hw__law_many : ∀ ds ω Φ, W__law_many ds ω Φ → (b__law_many : BS K).w (startD 2 ds) ω ⟨fun _ ω => Φ .non ω, Φ, fun _ _ => False, fun _ _ => False, fun _ _ _ => False⟩ := by
  rintro ds ω Φ ⟨c, rfl, h⟩
  unfold b__law_many
  have c0 := Int.emod_nonneg c (b := 12) (by omega)
  have c1 := Int.emod_lt_of_pos c (b := 12) (by omega)
  have d0 := Int.emod_nonneg (c / 72) (b := 90) (by omega)
  have d1 := Int.emod_lt_of_pos (c / 72) (b := 90) (by omega)
  refine w_seq ?_
  walk_at "t_w"
  refine w_cut (fun ρ1 ω1 => ω1 = ω ∧ ∃ m : Int, 0 ≤ m ∧ m ≤ 101 ∧ ρ1 = [some (.int c), some (.int m)]) (fun N hN => ?_) ?_
  · walk_at "t_w"
    refine iteI (fun _ => hN _ _ ⟨rfl, _, by omega, by omega, rfl⟩) (fun _ => hN _ _ ⟨rfl, _, by omega, by omega, rfl⟩)
  rintro _ ω ⟨rfl, m, m0, m1, rfl⟩
  walk_at "t_w"
  exact h m m0 m1
theorem hw__law_ordered : ∀ ds ω Φ, W__law_ordered ds ω Φ → (b__law_ordered : BS K).w (startD 1 ds) ω ⟨fun _ ω => Φ .non ω, Φ, fun _ _ => False, fun _ _ => False, fun _ _ _ => False⟩ := by
  rintro ds ω Φ ⟨es, rfl, hz, ho, hd, h⟩
  unfold b__law_ordered
  walk_at "t_w"
  refine sort_rows ho hd (fun e _ Φ' q => ?_) fun rs p pw => ?_
  · unfold eD
    walk_at "t_w"
    exact q
  · exact h rs ⟨p, pw⟩
theorem hw__law_between : ∀ ds ω Φ, W__law_between ds ω Φ → (b__law_between : BS K).w (startD 4 ds) ω ⟨fun _ ω => Φ .non ω, Φ, fun _ _ => False, fun _ _ => False, fun _ _ _ => False⟩ := by
  rintro ds ω Φ ⟨L, lo, hi, rfl, hz, h⟩
  unfold b__law_between
  walk_at "t_w"
  refine lc_filtG eD eD (inB lo hi) L (by omega) trivial (fun e he Q M hQ hM => ?_) h
  unfold inB at hQ hM
  unfold eD at hQ ⊢
  walk_at "t_w"
  cases c1 : ltS e.1 lo with
  | true => rw [c1] at hM; exact hM rfl
  | false =>
    rw [c1] at hQ hM
    cases hi with
    | none => exact hQ rfl
    | some g =>
      simp only [vD]
      walk_at "t_w"
      cases c2 : ltS e.1 g with
      | true => exact hQ (show (true && ltS e.1 g) = true from c2)
      | false => exact hM (show (true && ltS e.1 g) = false from c2)
theorem hw__law_first : ∀ ds ω Φ, W__law_first ds ω Φ → (b__law_first : BS K).w (startD 4 ds) ω ⟨fun _ ω => Φ .non ω, Φ, fun _ _ => False, fun _ _ => False, fun _ _ _ => False⟩ := by
  rintro ds ω Φ ⟨L, q, s, rfl, hs, h⟩
  unfold b__law_first
  refine w_cut (fun ρ1 ω1 => ω1 = ω ∧ (∀ e ∈ L, ¬ (e.1 = q ∧ e.2.1 ≤ s)) ∧ ∃ y3, ρ1 = [some (.lst (L.map eD)), some (.str q), some (.int s), y3]) (fun N hN => ?_) ?_
  · walk_at "t_w"
    refine for_go (fun i ρ1 ω1 => ω1 = ω ∧ (∀ e ∈ L.take i, ¬ (e.1 = q ∧ e.2.1 ≤ s)) ∧ ∃ y3, ρ1 = [some (.lst (L.map eD)), some (.str q), some (.int s), y3]) ?_ ?_ ⟨rfl, fun e he => (by cases he), none, rfl⟩
    · rintro i d _ ω M hd ⟨rfl, ha, y3, rfl⟩ hM
      rw [List.getElem?_map, Option.map_eq_some_iff] at hd
      obtain ⟨e, he, rfl⟩ := hd
      have te : L.take (i + 1) = L.take i ++ [e] := by rw [List.take_succ, he]; rfl
      refine ⟨trivial, w_gN ?_⟩
      simp only [List.set_cons_succ, List.set_cons_zero]
      by_cases c : e.1 = q ∧ e.2.1 ≤ s
      · refine w_sifB true (fun F hF => ?_) (iteT ?_)
        · unfold eD
          walk_at "t_w"
          rw [if_pos c.1]
          walk_at "t_w"
          rw [decide_eq_true c.2]; exact hF
        walk_at "t_w"
        refine h (some e) ⟨fun z => (by cases z), fun m z => ?_⟩
        cases z
        refine ⟨List.mem_of_getElem? he, c.1, c.2, fun x hx hk hi => ?_⟩
        obtain ⟨j, hj⟩ := List.getElem?_of_mem hx
        by_cases jc : j < i
        · exact absurd ⟨hk, hi⟩ (ha x (List.mem_of_getElem? (by rw [List.getElem?_take, if_pos jc]; exact hj)))
        · by_cases je : j = i
          · rw [je, he] at hj; cases hj; exact Int.le_refl _
          · obtain ⟨il, ei⟩ := List.getElem?_eq_some_iff.mp he
            obtain ⟨jl, ej⟩ := List.getElem?_eq_some_iff.mp hj
            have := List.pairwise_iff_getElem.mp hs i j il jl (by omega)
            rw [ei, ej] at this
            unfold aheadB at this
            rw [if_pos (by rw [c.1, hk])] at this
            have := of_decide_eq_true this
            omega
      · refine w_sifB false (fun F hF => ?_) (iteF (w_next ?_))
        · unfold eD
          walk_at "t_w"
          by_cases c1 : e.1 = q
          · rw [if_pos c1]
            walk_at "t_w"
            rw [decide_eq_false fun z => c ⟨c1, z⟩]; exact hF
          · rw [if_neg c1]; exact hF
        refine hM _ _ ⟨rfl, fun x hx => ?_, _, rfl⟩
        rw [te] at hx
        rcases List.mem_append.mp hx with z | z
        · exact ha x z
        · rw [List.mem_singleton.mp z]; exact c
    · rintro _ ω ⟨rfl, ha, y3, rfl⟩
      rw [List.length_map, List.take_length] at ha
      exact ⟨trivial, hN _ _ ⟨rfl, ha, y3, rfl⟩⟩
  rintro _ ω ⟨rfl, ha, y3, rfl⟩
  walk_at "t_w"
  refine h none ⟨fun _ e he hk => ?_, fun m z => (by cases z)⟩
  by_cases c : s < e.2.1
  · exact c
  · exact absurd ⟨hk, by omega⟩ (ha e he)
end
end G
namespace G
open PySem L2 T
local macro_rules | `(tactic| walk_at "t_side") => `(tactic| first | assumption | omega | decide | (simp only [List.length_append, List.length_cons, List.length_nil, List.length_map, List.length_flatten, List.length_replicate]; done) | (simp only [List.length_append, List.length_cons, List.length_nil, List.length_map, List.length_flatten, List.length_replicate]; omega))
local macro_rules | `(tactic| walk_at "t_x1") => `(tactic| simp (disch := (walk_at "t_side")) only [↓x_frz, ↓x_neE0, ↓x_neE1, ↓x_eqE0, ↓x_eqE1, ↓y_fld, ↓y_sfld, ↓y_meth, ↓x_make, ↓x_refW, ↓x_insW, ↓y_lk0, ↓y_lk1, ↓y_lkn, ↓y_pt0, ↓y_pt1, ↓y_ptn, ↓y_wX, ↓y_tab1, ↓y_tab2, ↓y_set0, ↓y_set1, ↓x_dget2, ↓x_dsetd, ↓x_dpop, ↓x_kvW, ↓x_dkOf1, ↓x_dkOf2, ↓x_dg1W, ↓x_keyS, ↓x_keyI, ↓x_bdget, ↓x_dgetW1, ↓x_dgetW2, ↓x_bdput, ↓x_dputK1, ↓x_dputK2, ↓x_lenK, ↓x_listK0, ↓x_sortS0, ↓y_dictC, ↓y_sortK1, ↓y_sortK0, ↓x_din, ↓x_dnewK, ↓x_raiseF, ↓x_conK, ↓y_remI, ↓x_biItemsA, ↓x_dget1, ↓x_biKeysF, ↓x_frzW, ↓x_biKeys, ↓x_dputA, ↓x_dputT, ↓x_dgetT, ↓x_sortSetIF, ↓x_sortKF, ↓x_one1, ↓x_isOwn, ↓x_mk0, ↓x_kwL, ↓x_kEnv, ↓x_vo0, ↓x_vo1, ↓x_raise, ↓x_callX, ↓x_tryI, ↓x_isE, ↓x_isXW, ↓x_fE, ↓x_xfW, ↓x_exD0, ↓x_exD1, ↓x_hds0, ↓x_hdsY, ↓x_hdsN, ↓x_slotN, ↓x_slotS, ↓x_delN, ↓x_delS, ↓y_endD, ↓x_optS, ↓x_cL, ↓x_cI, ↓x_cK, ↓x_sz, ↓x_rg1, ↓x_rg2, ↓x_varS, ↓x_var, ↓x_addS, ↓x_addT, ↓x_addL, ↓x_addOL, ↓x_mul, ↓x_mulS, ↓x_mulLF, ↓x_mulLT, ↓x_div, ↓x_mod, ↓x_pow4, ↓x_pow5, ↓x_pow6, ↓x_pow7, ↓x_pow9, ↓x_pow12, ↓x_pow60, ↓x_shr, ↓x_isT, ↓x_isF, ↓x_isNT, ↓x_isNF, ↓x_isN, ↓x_isNN, ↓x_non0, ↓x_non1, ↓x_non2, ↓x_non3, ↓x_non4, ↓x_non5, ↓x_non6, ↓x_ixS, ↓x_ixT, ↓x_ixC, ↓x_ixL, ↓x_ixR, ↓x_at0, ↓x_at1, ↓x_at2, ↓x_at3, ↓x_at4, ↓x_at5, ↓x_at6, ↓x_at7, ↓x_at8, ↓x_at9, ↓x_at10, ↓x_slS, ↓x_slL, ↓x_slLO, ↓x_slC, ↓x_slR, ↓x_slRO, ↓x_in, ↓x_nin, ↓x_truS, ↓x_lenS, ↓x_lenR, ↓x_isW0, ↓x_isW1, ↓x_isW2, ↓x_isW3, ↓x_isW4, ↓x_isW5, ↓x_isTii, ↓x_isTbi, ↓x_isTbb, ↓x_isTib, ↓x_isTss, ↓x_isTtt, ↓x_isTll, ↓x_isTnt, ↓x_isTst, ↓x_isTit, ↓x_isTlt, ↓x_isTbt, ↓x_isTni, ↓x_isTns, ↓x_isTis, ↓x_isTbs, ↓x_isTts, ↓x_isTls, ↓x_isTsi, ↓x_isTti, ↓x_isTli, ↓x_isTtl, ↓x_gT, ↓x_itR, ↓x_truR, ↓x_setS, ↓x_setN, ↓x_it, ↓x_con, ↓x_lit, ↓x_int, ↓x_op, ↓x_add, ↓x_sub, ↓x_neg, ↓x_lt, ↓x_le, ↓x_gt, ↓x_ge, ↓x_ltS, ↓x_leS, ↓x_gtS, ↓x_geS, ↓x_eqI, ↓x_eqS, ↓x_eqB, ↓x_neI, ↓x_neS, ↓x_neB, ↓x_eqN, ↓x_neN, ↓x_eqIN, ↓x_eqNI, ↓x_eqSN, ↓x_eqNS, ↓x_isB, ↓x_isNB, ↓x_sl, ↓x_oN, ↓x_oS, ↓x_slT, ↓x_baN, ↓x_baC, ↓x_tup, ↓x_lst, ↓x_lstO, ↓x_tru, ↓x_truB, ↓x_truN, ↓x_truI, ↓x_truT, ↓x_truL, ↓x_tC, ↓x_tB, ↓x_tand, ↓x_tor, ↓x_tnot, ↓x_yes, ↓x_and, ↓x_or, ↓x_not, ↓x_if, ↓x_chain, ↓x_bl, ↓x_cb, ↓x_lenT, ↓x_lenL, ↓x_lenC, ↓x_max, ↓x_min, ↓x_isi, ↓x_frz, ↓x_next, ↓x_break, ↓x_cont, ↓x_asg, ↓x_gsN, ↓x_gsC, ↓x_drop, ↓x_ret, ↓x_retN, ↓x_sif, ↓x_for, ↓x_seqI, ↓x_itL, ↓x_itT, ↓x_itC, ↓x_itS, ↓x_r1, ↓x_r2, ↓x_dk, ↓x_dt, ↓x_lc, ↓x_lcO, ↓x_need, ↓x_seqL, ↓x_seqT, ↓x_seqC, ↓x_seqR, ↓x_lstL, ↓x_lstR, ↓x_ints, ↓x_ints0, ↓x_ints1, ↓x_strs, ↓x_strs0, ↓x_strs1, ↓x_bls, ↓x_bls0, ↓x_bls1, ↓x_omap, ↓x_cl, ↓x_clO, ↓x_ctu, ↓x_strI, ↓x_strS, ↓x_intI, ↓x_intB, ↓x_intS, ↓x_ord, ↓x_sum, ↓x_maxL, ↓x_minL, ↓x_any, ↓x_all2, ↓x_bM, ↓x_bM0, ↓x_tyS, ↓x_tyL, ↓x_tyR, ↓x_tyC0, ↓x_tyC1, ↓x_tyC2, ↓x_needE, ↓x_app, ↓x_ext, ↓x_pop, ↓x_popAt, ↓x_rev, ↓x_clr, ↓x_ins, ↓x_split, ↓x_part, ↓x_join, ↓x_zf, ↓x_sidx, ↓x_eqE0, ↓x_eqE1, ↓x_set0, ↓x_set1, ↓x_gNs, ↓x_augs, ↓x_vr0, ↓x_vr1, ↓x_oa0, ↓x_oa1, ↓x_oa2, ↓x_oa3, ↓x_oa4, ↓x_oa5, ↓x_oa6, ↓x_oa7, ↓x_oa8, ↓x_oa9, ↓x_oa10, ↓x_cLS, ↓x_cLN, ↓x_ssL, ↓x_ssT, ↓x_ssC, ↓x_slsL, ↓x_oi, ↓x_oi0, ↓x_oi1, ↓x_os, ↓x_os0, ↓x_os1, ↓x_ob, ↓x_ob0, ↓x_ob1, ↓x_ntS, ↓x_ntL, ↓x_ntR, ↓x_ntN, ↓x_cutT1, ↓x_cutT2, ↓x_cutT0, ↓x_cutF1, ↓x_cutF2, ↓x_cutF3, ↓x_gT2, ↓x_gT3, ↓x_gT4, ↓x_gT5, ↓x_apd0, ↓x_apd1, ↓x_call0, ↓x_callD, ↓x_mulT, ↓x_fmt, ↓x_strW, ↓x_join2, ↓x_birev, ↓x_bienum, ↓x_lxL, ↓x_bizip, ↓x_lxZ, ↓x_birevS, ↓x_lxx0, ↓x_lxx1, ↓x_lxx2, ↓x_no, ↓x_band, ↓x_bor, ↓x_bxor, ↓x_shl, ↓x_cbk, ↓x_maxD, ↓x_sortI, ↓x_sortIo, ↓x_lenSetI, ↓x_ninR, ↓x_inR, ↓x_eqRL, ↓x_neRL, ↓x_gSub, ↓x_gsW, ↓x_sel, ↓x_sortKF, ↓x_sortKT, ↓x_one1, ↓x_itV, ↓x_kwL, ↓x_kwF, ↓x_kEnv, ↓x_vo0, ↓x_vo1, ↓x_revLF, ↓x_revLT, List.map_cons, List.map_nil, List.set_cons_zero, List.set_cons_succ, List.getElem?_cons_zero, List.getElem?_cons_succ, List.length_cons, List.length_nil, List.replicate, List.cons_append, List.nil_append, start_def, decide_eq_true_eq, Bool.not_eq_true, Bool.not_eq_true', Bool.and_eq_true, Bool.or_eq_true, decide_eq_false_iff_not, Bool.not_not, Bool.not_true, Bool.not_false, ↓reduceIte, wipeD, Bool.false_eq_true, reduceCtorEq, Nat.reduceSub, Nat.reduceAdd, and_true, true_and, List.isEmpty_cons, List.isEmpty_nil, not_true_eq_false, not_false_eq_true, or_false, or_true, true_or, false_or, and_false, false_and, Bool.true_or, Bool.false_or, Bool.or_true, Bool.or_false, Bool.true_and, Bool.and_true, Bool.false_and, Bool.and_false, bne_iff_ne, ne_eq, implies_true, List.append_nil, Int.cast_ofNat_Int, Int.reduceEq, Int.reduceLT, Int.reduceLE, Int.reduceAdd, Int.reduceSub, Int.reduceMul, Int.reduceNeg, Int.reduceToNat, decide_true, decide_false, Int.reduceMod, Int.reduceDiv, Nat.reduceMul, List.flatten_nil, List.flatten_cons])
local macro_rules | `(tactic| walk_at "t_x") => `(tactic| ((try (simp only [start_def]; simp only [List.map_cons, List.map_nil, List.length_cons, List.length_nil, Nat.reduceAdd, Nat.reduceSub, List.replicate, List.cons_append, List.nil_append])); try (walk_at "t_x1"; try walk_at "t_x1")))
local macro_rules | `(tactic| walk_at "t_f") => `(tactic| first | with_reducible refine insW_at (by assumption) ?_ | with_reducible refine cK_at (by assumption) ?_ | with_reducible refine cL_at (by assumption) ?_ | with_reducible refine kv_at (by assumption) ?_ | with_reducible refine tyL_at (by assumption) ?_ | with_reducible refine tyK_at (by assumption) ?_)
local macro_rules | `(tactic| walk_at "t_w") => `(tactic| (walk_at "t_x"; repeat (walk_at "t_f"; walk_at "t_x")))
section
variable {K : Fg} {ω : Om} {Φ : D → Om → Prop} {Ψ : Exn → Om → Prop}
theorem hw__law_all_entries : ∀ ds ω Φ, W__law_all_entries ds ω Φ → (b__law_all_entries : BS K).w (startD 2 ds) ω ⟨fun _ ω => Φ .non ω, Φ, fun _ _ => False, fun _ _ => False, fun _ _ _ => False⟩ := by
  rintro ds ω Φ ⟨a, es, rfl, ha, hz, h⟩
  unfold b__law_all_entries
  refine w_seq (w_sifB false (fun F hF => ?_) (iteF (w_next ?_)))
  · walk_at "t_w"
    refine isi_lst ⟨a, rfl, ha⟩ ?_
    walk_at "t_w"
    exact hF
  refine w_cut (fun ρ1 ω1 => ω1 = ω ∧ ∃ y, ρ1 = [some (.ref a), y]) (fun N hN => ?_) ?_
  · walk_at "t_w"
    refine for_go (fun i ρ1 ω1 => ω1 = ω ∧ ∃ y, ρ1 = [some (.ref a), y]) ?_ ?_ ⟨rfl, none, rfl⟩
    · rintro i d _ ω M hd ⟨rfl, y, rfl⟩ hM
      rw [List.getElem?_map, Option.map_eq_some_iff] at hd
      obtain ⟨e, he, rfl⟩ := hd
      refine ⟨ha, w_gN ?_⟩
      simp only [List.set_cons_succ, List.set_cons_zero]
      obtain ⟨k, s, v⟩ := e
      unfold eD
      refine w_seq (w_sifB false (fun F hF => ?_) (iteF (w_next ?_)))
      · walk_at "t_w"
        exact hF
      refine w_sifB false (fun F hF => ?_) (iteF (w_next (hM _ _ ⟨rfl, _, rfl⟩)))
      walk_at "t_w"
      refine ⟨s, rfl, ?_⟩
      cases v with
      | none =>
        simp only [vD]
        walk_at "t_w"
        exact hF
      | some v =>
        simp only [vD]
        walk_at "t_w"
        exact hF
    · rintro _ ω ⟨rfl, y, rfl⟩
      exact ⟨ha, hN _ _ ⟨rfl, y, rfl⟩⟩
  rintro _ ω ⟨rfl, y, rfl⟩
  walk_at "t_w"
  exact h
theorem hw__law_stamps : ∀ ds ω Φ, W__law_stamps ds ω Φ → (b__law_stamps : BS K).w (startD 7 ds) ω ⟨fun _ ω => Φ .non ω, Φ, fun _ _ => False, fun _ _ => False, fun _ _ _ => False⟩ := by
  rintro ds ω Φ ⟨es, c, rfl, hz, h⟩
  unfold b__law_stamps
  refine w_cut (fun ρ1 ω1 => ω1 = ω ∧ ∃ m : Int, 0 ≤ m ∧ m ≤ 40 ∧ ρ1 = [some (.lst (es.map eD)), some (.int c), some (.int m), none, none, none, none]) (fun N hN => ?_) ?_
  · have b0 := Int.emod_nonneg c (b := 5) (by omega)
    have b1 := Int.emod_lt_of_pos c (b := 5) (by omega)
    walk_at "t_w"
    exact hN _ _ ⟨rfl, _, by omega, by omega, rfl⟩
  rintro _ ω ⟨rfl, m, m0, m1, rfl⟩
  refine w_cut (fun ρ1 ω1 => ω1 = ω ∧ ∃ m : Int, 0 ≤ m ∧ m ≤ 40 ∧ ρ1 = [some (.lst (es.map eD)), some (.int c), some (.int m), none, none, none, none]) (fun N hN => ?_) ?_
  · have b0 := Int.emod_nonneg (c / 160) (b := 40) (by omega)
    have b1 := Int.emod_lt_of_pos (c / 160) (b := 40) (by omega)
    walk_at "t_w"
    exact iteI (fun _ => hN _ _ ⟨rfl, _, by omega, by omega, rfl⟩) (fun _ => hN _ _ ⟨rfl, m, m0, m1, rfl⟩)
  clear m0 m1 m
  rintro _ ω ⟨rfl, m, m0, m1, rfl⟩
  refine w_cut (fun ρ1 ω1 => ω1 = ω ∧ ∃ xs : List Int, xs.length ≤ 40 ∧ ρ1 = [some (.lst (es.map eD)), some (.int c), some (.int m), some (.lst (xs.map .int)), none, none, none]) (fun N hN => ?_) ?_
  · walk_at "t_w"
    refine ⟨_, _, rfl, by omega, by omega, fun X hX hx r hr => ?_⟩
    simp only [Om.set_same, del_new hr]
    exact hN _ _ ⟨rfl, X, by omega, rfl⟩
  rintro _ ω ⟨rfl, xs, xz, rfl⟩
  by_cases ce : es = []
  · subst ce
    refine w_seq (w_sifB true (fun F hF => ?_) (iteT ?_))
    · walk_at "t_w"
      exact hF
    walk_at "t_w"
    exact h [] (by simp)
  obtain ⟨e0, r0, rfl⟩ : ∃ e r, es = e :: r := by cases es; exact absurd rfl ce; exact ⟨_, _, rfl⟩
  refine w_seq (w_sifD (c / 5 % 4 = 0) (fun F hF => ?_) (fun c1 => ?_) fun c1 => w_next ?_)
  · walk_at "t_w"
    exact hF
  · walk_at "t_w"
    exact h [] (by simp)
  refine w_cut (fun ρ1 ω1 => ω1 = ω ∧ ∃ zs : List Int, zs.length ≤ 40 ∧ ∃ y5, ρ1 = [some (.lst ((e0 :: r0).map eD)), some (.int c), some (.int m), some (.lst (xs.map .int)), some (.lst (zs.map .int)), y5, none]) (fun N hN => ?_) ?_
  · walk_at "t_w"
    refine lc_go (fun i acc ω1 => ω1 = ω ∧ ∃ zs : List Int, acc = zs.map .int ∧ zs.length = i) ?_ ?_ ⟨rfl, [], rfl, rfl⟩
    · rintro i d acc _ M hd ⟨rfl, zs, rfl, hi⟩ hM
      obtain ⟨il, _⟩ := List.getElem?_eq_some_iff.mp hd
      rw [List.length_map] at il
      rw [List.getElem?_map, Option.map_eq_some_iff] at hd
      obtain ⟨x, hx, rfl⟩ := hd
      refine ⟨trivial, ?_⟩
      walk_at "t_w"
      refine opt_rest (l := eD e0 :: r0.map eD) (by omega) (by simp) fun d hd => ?_
      obtain ⟨e, _, rfl⟩ : ∃ e ∈ e0 :: r0, eD e = d := List.mem_map.mp (by rw [List.map_cons]; exact hd)
      unfold eD
      walk_at "t_w"
      refine ⟨by rw [sizeLine_eq, List.length_map]; omega, hM _ _ ⟨rfl, zs ++ [_], by rw [List.map_append]; rfl, by rw [List.length_append, hi]; rfl⟩⟩
    · rintro acc _ ⟨rfl, zs, rfl, hi⟩
      rw [List.length_map] at hi
      exact ⟨trivial, hN _ _ ⟨rfl, zs, by omega, _, rfl⟩⟩
  rintro _ ω ⟨rfl, zs, zz, y5, rfl⟩
  walk_at "t_w"
  refine lc_mapT (fun x : Int => D.int x) (fun x => .int (min (max 0 x) 999999999)) zs (by omega) trivial (fun x hx Q hQ => ?_) ?_
  · walk_at "t_w"
    exact hQ
  rw [show zs.map (fun x => D.int (min (max 0 x) 999999999)) = (zs.map fun x => min (max 0 x) 999999999).map .int by rw [List.map_map]; rfl]
  have z2 : (zs.map fun x => min (max 0 x) 999999999).length < 64 := by rw [List.length_map]; omega
  walk_at "t_w"
  intro l _ _ hl
  exact h l (by rw [List.length_map] at hl; omega)
theorem hkv_nodup {es : List Ent} (d : Dist es) : ((es.map hkv).map (·.1)).Nodup := by
  rw [List.map_map, List.nodup_iff_pairwise_ne, List.pairwise_map]
  exact d.imp fun {a b} h z => h (hk_iff.mp z)
theorem hw__law_entries : ∀ ds ω Φ, W__law_entries ds ω Φ → (b__law_entries : BS K).w (startD 9 ds) ω ⟨fun _ ω => Φ .non ω, Φ, fun _ _ => False, fun _ _ => False, fun _ _ _ => False⟩ := by
  rintro ds ω Φ ⟨c, m, rfl, m0, m1, h⟩
  unfold b__law_entries
  refine w_cut (fun ρ1 ω1 => Grow ω ω1 ∧ ∃ wa ws, Words ws ∧ ω1 wa = some (.lst (ws.map .str)) ∧ ρ1 = [some (.int c), some (.int m), some (.ref wa), none, none, none, none, none, none]) (fun N hN => ?_) ?_
  · walk_at "t_w"
    refine opt_rest (m := 4) (by omega) (by simp) fun d hd => ?_
    obtain ⟨k, rfl, hk⟩ : ∃ k : Int, d = .int k ∧ 0 ≤ k ∧ k ≤ 40 := by
      simp only [List.mem_cons, List.not_mem_nil, or_false] at hd
      rcases hd with rfl | rfl | rfl | rfl
      · exact ⟨2, rfl, by omega, by omega⟩
      · exact ⟨4, rfl, by omega, by omega⟩
      · exact ⟨9, rfl, by omega, by omega⟩
      · exact ⟨20, rfl, by omega, by omega⟩
    refine ⟨_, k, rfl, hk.1, hk.2, fun ws r hw hr => ?_⟩
    exact hN _ _ ⟨Grow.set hr, r, ws, hw, Om.set_same, rfl⟩
  rintro _ ω1 ⟨g1, wa, ws, W, hwa, rfl⟩
  have wl := W.n1
  refine w_cut (fun ρ1 ω2 => ω2 = ω1 ∧ ∃ b : Int, 0 ≤ b ∧ b + 4 * m ≤ 999999999 ∧ ρ1 = [some (.int c), some (.int m), some (.ref wa), some (.int b), none, none, none, none, none]) (fun N hN => ?_) ?_
  · walk_at "t_w"
    refine opt_rest (m := 2) (by omega) (by simp) fun d hd => ?_
    simp only [List.mem_cons, List.not_mem_nil, or_false] at hd
    rcases hd with rfl | rfl
    · exact hN _ _ ⟨rfl, 0, by omega, by omega, rfl⟩
    · exact hN _ _ ⟨rfl, _, by omega, by omega, rfl⟩
  rintro _ ω1 ⟨rfl, b, b0, b1, rfl⟩
  refine w_cut (fun ρ1 ω2 => ∃ a, ω1 a = none ∧ ω2 = ω1.set a (.dt []) ∧ ρ1 = [some (.int c), some (.int m), some (.ref wa), some (.int b), some (.ref a), none, none, none, none]) (fun N hN => ?_) ?_
  · walk_at "t_w"
    intro a ha
    exact hN _ _ ⟨a, ha, rfl, rfl⟩
  rintro _ ω2 ⟨a, ha, e2, rfl⟩
  have wna : wa ≠ a := fun e => by rw [e, ha] at hwa; cases hwa
  refine w_cut (fun ρ1 ω3 => ∃ es y5 y6, EntP ws es ∧ ω3 = ω1.set a (.dt (es.map hkv)) ∧ ρ1 = [some (.int c), some (.int m), some (.ref wa), some (.int b), some (.ref a), y5, y6, none, none]) (fun N hN => ?_) ?_
  · walk_at "t_w"
    refine ⟨_, _, rfl, by omega, by omega, fun X hX hx r hr => ?_⟩
    simp only [Om.set_same, del_new hr]
    walk_at "t_w"
    refine ⟨_, _, rfl, by omega, by omega, fun X2 hX2 hx2 r2 hr2 => ?_⟩
    simp only [Om.set_same, del_new hr2]
    walk_at "t_w"
    have chk : ∀ ω' : Om, lstX ω' (.lst (X.map .int)) = some (X.map .int) ∧ lstX ω' (.lst (X2.map .int)) = some (X2.map .int) := fun _ => ⟨rfl, rfl⟩
    refine for_go (fun i ρ1 ω3 => ∃ es y5 y6, es.length ≤ i ∧ (∀ e ∈ es, OkE e ∧ e.1 ∈ ws) ∧ Dist es ∧ ω3 = ω1.set a (.dt (es.map hkv)) ∧ ρ1 = [some (.int c), some (.int m), some (.ref wa), some (.int b), some (.ref a), y5, y6, none, none]) ?_ ?_ ⟨[], none, none, Nat.le_refl _, fun e he => (by cases he), .nil, e2, rfl⟩
    · rintro i d _ ω3 M hd ⟨es, y5, y6, ez, eo, ed, rfl, rfl⟩ hM
      unfold zipD at hd
      obtain ⟨x, y, h1, h2, h3⟩ := List.getElem?_zipWith_eq_some.mp hd
      rw [List.getElem?_map, Option.map_eq_some_iff] at h1 h2
      obtain ⟨x, hx1, rfl⟩ := h1
      obtain ⟨y, hy1, rfl⟩ := h2
      subst h3
      have il := (List.getElem?_eq_some_iff.mp hx1).1
      have mp : 0 < m := by omega
      refine ⟨chk _, w_gT rfl (w_gsC (w_gN ?_))⟩
      refine w_gsC (w_gN (w_gsN ?_))
      simp only [List.set_cons_succ, List.set_cons_zero]
      have hw3 : (ω1.set a (.dt (es.map hkv))) wa = some (.lst (ws.map .str)) := (Om.set_ne wna).trans hwa
      have q0 := Int.emod_nonneg (x / 9) (b := 4 * m) (by omega)
      have q1 := Int.emod_lt_of_pos (x / 9) (b := 4 * m) (by omega)
      walk_at "t_w"
      refine ⟨y, rfl, fun v hv => ?_⟩
      walk_at "t_w"
      refine opt_rest (by rw [List.length_map]; omega) (Int.le_refl _) fun kd hkd => ?_
      obtain ⟨k, hk, rfl⟩ := List.mem_map.mp hkd
      generalize hs : b + 1 + x / 9 % (4 * m) = s
      refine cT_iff.mpr ⟨_, rfl, ?_⟩
      refine optW_iff.mpr ⟨_, rfl, ⟨by rw [List.length_map]; omega, by decide⟩, ?_⟩
      rw [putI2_kv es (k, s, v), Om.set_set]
      have pp := putI2_perm (k, s, v) ed
      have pl := pp.length_eq
      have pl2 : (putE es (k, s, v)).length ≤ es.length + 1 := by
        unfold putE
        rw [List.length_append, List.length_singleton]
        exact Nat.succ_le_succ (List.length_filter_le _ _)
      refine hM _ _ ⟨putI2 es (k, s, v), _, _, by omega, fun e he => ?_, dist_perm pp (putE_d ed), rfl, rfl⟩
      have he := pp.mem_iff.mp he
      unfold putE at he
      rcases List.mem_append.mp he with z | z
      · exact eo e (List.mem_filter.mp z).1
      · rw [List.mem_singleton.mp z]
        exact ⟨⟨W.k k hk, ⟨by show 1 ≤ s; omega, by show s ≤ 999999999; omega⟩, hv⟩, hk⟩
    · rintro _ ω3 ⟨es, y5, y6, ez, eo, ed, e3, rfl⟩
      refine ⟨chk _, hN _ _ ⟨es, y5, y6, ⟨W, ?_, eo, ed⟩, e3, rfl⟩⟩
      unfold zipD at ez
      rw [List.length_zipWith, List.length_map] at ez
      omega
  rintro _ ω3 ⟨es, y5, y6, E, hc, rfl⟩
  walk_at "t_w"
  have a3 : ω3 a = some (.dt (es.map hkv)) := by rw [hc, Om.set_same]
  refine keys_dt a3 fun o xs => ?_
  have eR : ((es.map hkv).map fun p => D.tup (p.1.map kD)) = es.map fun e => .tup [.str e.1, .int e.2.1] := by
    rw [List.map_map]
    refine List.map_congr_left fun e _ => ?_
    show D.tup [.str (cs (sOf e.1)), .int e.2.1] = _
    rw [cs_sOf]
  rw [eR]
  have a4 : (ω3.set a (.ft o xs (es.map hkv))) a = some (.ft o xs (es.map hkv)) := Om.set_same
  have ez := E.z
  have fin : Φ (.lst ((es.filter fun _ => true).map eD)) (ω3.set a (.ft o xs (es.map hkv))) := by
    rw [List.filter_eq_self.mpr fun _ _ => rfl]
    refine h _ ws es (fun x hx => ?_) E
    have xa : x ≠ a := fun e => hx (by rw [e]; exact g1.free ha)
    rw [Om.set_ne xa, hc, Om.set_ne xa]
    exact g1 x hx
  refine lc_filtG (fun e : Ent => .tup [.str e.1, .int e.2.1]) eD (fun _ => true) es (by omega) a4 (fun e he Q M hQ hM => ?_) fin
  walk_at "t_w"
  refine optW_iff.mpr ⟨_, rfl, optW_iff.mpr ⟨_, rfl, ?_⟩⟩
  rw [valD_nodup (hkv_nodup E.d) (List.mem_map.mpr ⟨e, he, rfl⟩)]
  exact hQ rfl
end
section
variable {K : Fg} {ω : Om} {Φ : D → Om → Prop} {Ψ : Exn → Om → Prop} {p : Addr} {L : List Ent}
theorem PartR.grow {ω' : Om} (h : PartR ω p L) (g : Grow ω ω') : PartR ω' p L := by
  rcases h with ⟨h1, h2⟩ | ⟨ha, h, h1, h2, h3⟩ | ⟨n, b, h1, h2⟩
  · exact .inl ⟨g.at h1, h2⟩
  · refine .inr (.inl ⟨ha, h, g.at h1, ⟨h2.r.of fun b hb => ?_, h2.n, h2.z⟩, h3⟩)
    refine g b ?_
    rcases hb with rfl | rfl | ⟨r, hr, rfl⟩
    · rw [h2.r.i]; simp
    · rw [h2.r.d]; simp
    · rw [h2.r.r r hr]; simp
  · exact .inr (.inr ⟨n, b, g.at h1, h2⟩)
theorem ne_eD {e : Ent} (h : OkE e) (q : Φ (.bl false) ω) : (oNe : O2 K).w (eD e) (eD e) ω Φ := by
  have k := eD_ok h
  rw [ne_Rs (d' := eD e) (e' := eD e) rfl (.base k.1) (.base k.1) (Nat.le_trans k.2 (by omega)) (Nat.le_trans k.2 (by omega)), deq_refl _ k.1]
  exact q
theorem ne_oE {r : Option Ent} (h : ∀ e, r = some e → OkE e) (q : Φ (.bl false) ω) : (oNe : O2 K).w (oE r) (oE r) ω Φ := by
  cases r with
  | none => exact w_neN q
  | some e => exact ne_eD (h e rfl) q
theorem newest_perm6 {a b : List Ent} {q : List Nat} {s : Int} {r : Option Ent} (p : a.Perm b) (h : Newest a q s r) : Newest b q s r := ⟨fun hr e he hk => h.no hr e (p.mem_iff.mpr he) hk, fun m hm => by
  obtain ⟨h1, h2, h3, h4⟩ := h.yes m hm
  exact ⟨p.mem_iff.mp h1, h2, h3, fun e he => h4 e (p.mem_iff.mpr he)⟩⟩
theorem hw__law_told : ∀ ds ω Φ, W__law_told ds ω Φ → (b__law_told : BS K).w (startD 11 ds) ω ⟨fun _ ω => Φ .non ω, Φ, fun _ _ => False, fun _ _ => False, fun _ _ _ => False⟩ := by
  rintro ds ω Φ ⟨p, L, qs, ss, bs, rfl, PR, ok, di, srt, lz, A, sz, B, h⟩
  unfold b__law_told
  have qz := A.z
  have bz := B.z
  have okr : ∀ {q s r}, Newest L q s r → ∀ e, r = some e → OkE e := fun {q s r} N e he => ok e (N.yes e he).1
  have fst : ∀ {ω1 : Om} {q s} {Φ : D → Om → Prop}, (∀ r, Newest L q s r → Φ (oE r) ω1) → W__law_first [.lst (L.map eD), .str q, .int s] ω1 Φ := fun {ω1 q s Φ} h => ⟨L, q, s, rfl, srt, h⟩
  refine w_cut (fun ρ1 ω1 => Grow ω ω1 ∧ ∃ y5 y6, ρ1 = [some (.ref p), some (.lst (L.map eD)), some (.lst (qs.map .str)), some (.lst (ss.map .int)), some (.lst (bs.map bndD)), y5, y6, none, none, none, none]) (fun N hN => ?_) ?_
  · walk_at "t_w"
    refine for_go (fun i ρ1 ω1 => Grow ω ω1 ∧ ∃ y5 y6, ρ1 = [some (.ref p), some (.lst (L.map eD)), some (.lst (qs.map .str)), some (.lst (ss.map .int)), some (.lst (bs.map bndD)), y5, y6, none, none, none, none]) ?_ ?_ ⟨Grow.refl _, none, none, rfl⟩
    · rintro i d _ ω1 M hd ⟨g1, y5, y6, rfl⟩ hM
      rw [List.getElem?_map, Option.map_eq_some_iff] at hd
      obtain ⟨q, hq, rfl⟩ := hd
      have kq := A.k q (List.mem_of_getElem? hq)
      refine ⟨trivial, w_gN ?_⟩
      simp only [List.set_cons_succ, List.set_cons_zero]
      refine w_cut (fun ρ1 ω2 => Grow ω ω2 ∧ ∃ y6, ρ1 = [some (.ref p), some (.lst (L.map eD)), some (.lst (qs.map .str)), some (.lst (ss.map .int)), some (.lst (bs.map bndD)), some (.str q), y6, none, none, none, none]) (fun N hN => ?_) ?_
      · walk_at "t_w"
        refine for_go (fun j ρ1 ω2 => Grow ω ω2 ∧ ∃ y6, ρ1 = [some (.ref p), some (.lst (L.map eD)), some (.lst (qs.map .str)), some (.lst (ss.map .int)), some (.lst (bs.map bndD)), some (.str q), y6, none, none, none, none]) ?_ ?_ ⟨g1, y6, rfl⟩
        · rintro j d _ ω2 M2 hd ⟨g2, y6, rfl⟩ hM2
          rw [List.getElem?_map, Option.map_eq_some_iff] at hd
          obtain ⟨s, hs, rfl⟩ := hd
          refine ⟨trivial, w_gN ?_⟩
          simp only [List.set_cons_succ, List.set_cons_zero]
          refine w_sifM false (fun ω3 => Grow ω ω3) (fun F hF => ?_) fun ω3 g3 => iteF (w_next (hM2 _ _ ⟨g3, _, rfl⟩))
          rcases PR.grow g2 with ⟨hp, hL⟩ | ⟨ha, hh, hp, oh, hr⟩ | ⟨n, b, hp, n0, n1, rw1, mk⟩
          · walk_at "t_w"
            refine ⟨_, _, _, rfl, ?_⟩
            walk_at "t_w"
            refine fst fun r N => ?_
            have : r = none := by
              cases r with
              | none => rfl
              | some m => have := (N.yes m rfl).1; rw [hL] at this; cases this
            subst this
            walk_at "t_w"
            exact hF _ g2
          · unfold handF at hp
            walk_at "t_w"
            refine ⟨p, ha, hh, q, s, rfl, hp, oh.r, fun ω3 r' g3 N' => ?_⟩
            walk_at "t_w"
            refine fst fun r N => ?_
            rw [newest_uniq di N (newest_perm6 hr.1.symm N')]
            walk_at "t_w"
            exact ne_oE (okr (newest_perm6 hr.1.symm N')) (hF _ (g2.trans g3))
          · have hp2 := hp
            unfold runF at hp2
            walk_at "t_w"
            refine ⟨p, n, L, b, q, s, rfl, hp, rw1, mk, kq.1, by have := kq.2.2; omega, fun r' N' => ?_⟩
            walk_at "t_w"
            refine fst fun r N => ?_
            rw [newest_uniq di N N']
            walk_at "t_w"
            exact ne_oE (okr N') (hF _ g2)
        · rintro _ ω2 ⟨g2, y6, rfl⟩
          exact ⟨trivial, hN _ _ ⟨g2, y6, rfl⟩⟩
      rintro _ ω2 ⟨g2, y6', rfl⟩
      refine w_sifM false (fun ω3 => Grow ω ω3) (fun F hF => ?_) fun ω3 g3 => iteF (w_next (hM _ _ ⟨g3, _, _, rfl⟩))
      rcases PR.grow g2 with ⟨hp, hL⟩ | ⟨ha, hh, hp, oh, hr⟩ | ⟨n, b, hp, n0, n1, rw1, mk⟩
      · walk_at "t_w"
        refine ⟨_, _, rfl, ?_⟩
        walk_at "t_w"
        exact hF _ g2
      · have hp2 := hp
        unfold handF at hp2
        walk_at "t_w"
        refine ⟨p, ha, hh, q, rfl, hp, oh.r, fun b ω3 g3 _ => ?_⟩
        walk_at "t_w"
        exact hF _ (g2.trans g3)
      · have hp2 := hp
        unfold runF at hp2
        walk_at "t_w"
        refine ⟨p, n, L, b, q, rfl, hp, ?_⟩
        walk_at "t_w"
        exact hF _ g2
    · rintro _ ω1 ⟨g1, y5, y6, rfl⟩
      exact ⟨trivial, hN _ _ ⟨g1, y5, y6, rfl⟩⟩
  rintro _ ω1 ⟨g1, y5, y6, rfl⟩
  refine w_cut (fun ρ1 ω2 => Grow ω ω2 ∧ ∃ y7 y8 y9 y10, ρ1 = [some (.ref p), some (.lst (L.map eD)), some (.lst (qs.map .str)), some (.lst (ss.map .int)), some (.lst (bs.map bndD)), y5, y6, y7, y8, y9, y10]) (fun N hN => ?_) ?_
  · walk_at "t_w"
    refine for_go (fun i ρ1 ω2 => Grow ω ω2 ∧ ∃ y7 y8 y9 y10, ρ1 = [some (.ref p), some (.lst (L.map eD)), some (.lst (qs.map .str)), some (.lst (ss.map .int)), some (.lst (bs.map bndD)), y5, y6, y7, y8, y9, y10]) ?_ ?_ ⟨g1, none, none, none, none, rfl⟩
    · rintro i d _ ω2 M hd ⟨g2, y7, y8, y9, y10, rfl⟩ hM
      rw [List.getElem?_map, Option.map_eq_some_iff] at hd
      obtain ⟨⟨lo, hi⟩, hb, rfl⟩ := hd
      obtain ⟨hlo, hhi⟩ := B.k _ (List.mem_of_getElem? hb)
      have hlo : lo.all okc = true := hlo
      have hhi : ∀ h, hi = some h → h.all okc = true := hhi
      unfold bndD
      refine ⟨trivial, w_gT rfl (w_gsC (w_gN ?_))⟩
      refine w_gsC (w_gN (w_gsN ?_))
      simp only [List.set_cons_succ, List.set_cons_zero]
      have fz := List.length_filter_le (inB lo hi) L
      have okf : ∀ e ∈ L.filter (inB lo hi), OkE e := fun e he => ok e (List.mem_filter.mp he).1
      -- a stretch, as told
      have tell : ∀ {ω3 : Om} {y9 y10 : Option D} {Φ : D → Om → Prop}, Grow ω ω3 → (∀ ω4 r, Grow ω ω4 → ω3 r = none → ω4 r = some (.lst ((L.filter (inB lo hi)).map eD)) → Φ (.ref r) ω4) → (bMeth [MT.mk "Part" (wX W_Part_between) (([] : List V).drop 0) [] (hd_drop (us := ([] : List V)) rfl (fun _ => .nil)), MT.mk "InHand" (wX W_InHand_between) (([] : List V).drop 0) [] (hd_drop (us := ([] : List V)) rfl (fun _ => .nil)), MT.mk "InRun" (wX W_InRun_between) (([] : List V).drop 0) [] (hd_drop (us := ([] : List V)) rfl (fun _ => .nil))] "between" (bVar 0) (baC (bVar 7) (baC (bVar 8) (baN))) : BE K).w [some (.ref p), some (.lst (L.map eD)), some (.lst (qs.map .str)), some (.lst (ss.map .int)), some (.lst (bs.map bndD)), y5, y6, some (.str lo), some (vD hi), y9, y10] ω3 Φ (fun _ _ => False) := fun {ω3 y9 y10 Φ} g3 q => by
        rcases PR.grow g3 with ⟨hp, hL⟩ | ⟨ha, hh, hp, oh, hr⟩ | ⟨n, b, hp, n0, n1, rw1, mk⟩
        · walk_at "t_w"
          refine ⟨_, _, _, rfl, fun r hr => ?_⟩
          exact q _ r (g3.trans (Grow.set hr)) hr (by rw [Om.set_same, hL]; rfl)
        · have hp2 := hp
          unfold handF at hp2
          walk_at "t_w"
          refine ⟨p, ha, hh, lo, hi, rfl, hp, oh, fun ω4 r L' g4 hr' hL' hc => ?_⟩
          rw [ord_one hL'.2 srt (hL'.1.trans hr.1.symm)] at hc
          exact q _ r (g3.trans g4) hr' hc
        · have hp2 := hp
          unfold runF at hp2
          walk_at "t_w"
          refine ⟨p, n, L, b, lo, hi, rfl, hp, rw1, mk, hlo, hhi, fun r hr => ?_⟩
          exact q _ r (g3.trans (Grow.set hr)) hr Om.set_same
      refine w_cut (fun ρ1 ω3 => ω3 = ω2 ∧ ρ1 = [some (.ref p), some (.lst (L.map eD)), some (.lst (qs.map .str)), some (.lst (ss.map .int)), some (.lst (bs.map bndD)), y5, y6, some (.str lo), some (vD hi), some (.lst ((L.filter (inB lo hi)).map eD)), y10]) (fun N hN => ?_) ?_
      · walk_at "t_w"
        refine ⟨L, lo, hi, rfl, by omega, ?_⟩
        exact hN _ _ ⟨rfl, rfl⟩
      rintro _ ω2 ⟨rfl, rfl⟩
      refine w_cut (fun ρ1 ω3 => ∃ r, Grow ω ω3 ∧ ω2 r = none ∧ ω3 r = some (.lst ((L.filter (inB lo hi)).map eD)) ∧ ρ1 = [some (.ref p), some (.lst (L.map eD)), some (.lst (qs.map .str)), some (.lst (ss.map .int)), some (.lst (bs.map bndD)), y5, y6, some (.str lo), some (vD hi), some (.lst ((L.filter (inB lo hi)).map eD)), some (.ref r)]) (fun N hN => ?_) ?_
      · refine w_asg (tell g2 fun ω3 r g3 hr hc => ?_)
        walk_at "t_w"
        exact hN _ _ ⟨r, g3, hr, hc, rfl⟩
      rintro _ ω3 ⟨r, g3, hr, hc, rfl⟩
      refine w_seq (w_sifB false (fun F hF => ?_) (iteF (w_next ?_)))
      · walk_at "t_w"
        refine ⟨r, _, rfl, hc, by omega, ?_⟩
        walk_at "t_w"
        exact ne_same rfl (lst_ref hc) rfl (esD_ok okf) (by omega) hF
      have hz : ((L.filter (inB lo hi)).map eD).length < 16777216 := by rw [List.length_map]; omega
      refine w_cut (fun ρ1 ω4 => Grow ω ω4 ∧ ρ1 = [some (.ref p), some (.lst (L.map eD)), some (.lst (qs.map .str)), some (.lst (ss.map .int)), some (.lst (bs.map bndD)), y5, y6, some (.str lo), some (vD hi), some (.lst ((L.filter (inB lo hi)).map eD)), some (.ref r)]) (fun N hN => ?_) ?_
      · walk_at "t_w"
        exact hN _ _ ⟨g3.put (g2.free hr), rfl⟩
      rintro _ ω4 ⟨g4, rfl⟩
      refine w_sifM false (fun ω5 => Grow ω ω5) (fun F hF => ?_) fun ω5 g5 => iteF (w_next (hM _ _ ⟨g5, _, _, _, _, rfl⟩))
      refine tell g4 fun ω5 r5 g5 hr5 hc5 => ?_
      walk_at "t_w"
      exact ne_same rfl (lst_ref hc5) rfl (esD_ok okf) (by omega) (hF _ g5)
    · rintro _ ω2 ⟨g2, y7, y8, y9, y10, rfl⟩
      exact ⟨trivial, hN _ _ ⟨g2, y7, y8, y9, y10, rfl⟩⟩
  rintro _ ω2 ⟨g2, y7, y8, y9, y10, rfl⟩
  rcases PR.grow g2 with ⟨hp, hL⟩ | ⟨ha, hh, hp, oh, hr⟩ | ⟨n, b, hp, n0, n1, rw1, mk⟩
  · walk_at "t_w"
    refine ⟨_, rfl, ?_⟩
    walk_at "t_w"
    exact h _ g2
  · have hp2 := hp
    unfold handF at hp2
    walk_at "t_w"
    refine ⟨_, rfl, ?_⟩
    walk_at "t_w"
    exact h _ g2
  · have hp2 := hp
    unfold runF at hp2
    walk_at "t_w"
    refine ⟨p, n, L, b, rfl, hp, n0, n1, ?_⟩
    walk_at "t_w"
    exact h _ g2
theorem mayB_key {L : List Ent} {b : Nat} {q : List Nat} (mk : Marks L b) (h : ∃ e ∈ L, e.1 = q) : mayB L b q = true := by
  obtain ⟨e, he, hk⟩ := h
  rw [marks_one mk (marks_bits L)]
  cases c : mayB L (bitsOf L) q with
  | true => rfl
  | false => exact absurd hk (no_may c e he)
theorem hw__law_says : ∀ ds ω Φ, W__law_says ds ω Φ → (b__law_says : BS K).w (startD 8 ds) ω ⟨fun _ ω => Φ .non ω, Φ, fun _ _ => False, fun _ _ => False, fun _ _ _ => False⟩ := by
  rintro ds ω Φ ⟨ha, p, hh, n, b, sv, L, qs, rfl, oh, hr, ok, lz, hp, A, h⟩
  unfold b__law_says
  have qz := A.z
  refine w_cut (fun ρ1 ω1 => ω1 = ω ∧ ∃ y7, ρ1 = [some (.ref ha), some (.ref p), some sv, some (.lst (L.map eD)), some (.lst (qs.map .str)), some (.lst ((L.map (·.1)).map .str)), none, y7]) (fun N hN => ?_) ?_
  · walk_at "t_w"
    refine lc_mapT eD (fun e : Ent => D.str e.1) L (by omega) trivial (fun e he Q hQ => ?_) ?_
    · unfold eD
      walk_at "t_w"
      exact hQ
    · exact hN _ _ ⟨rfl, _, by rw [List.map_map]; rfl⟩
  rintro _ ω ⟨rfl, y7, rfl⟩
  refine w_cut (fun ρ1 ω1 => Grow ω ω1 ∧ ∃ y6, ρ1 = [some (.ref ha), some (.ref p), some sv, some (.lst (L.map eD)), some (.lst (qs.map .str)), some (.lst ((L.map (·.1)).map .str)), y6, y7]) (fun N hN => ?_) ?_
  · walk_at "t_w"
    refine for_go (fun i ρ1 ω1 => Grow ω ω1 ∧ ∃ y6, ρ1 = [some (.ref ha), some (.ref p), some sv, some (.lst (L.map eD)), some (.lst (qs.map .str)), some (.lst ((L.map (·.1)).map .str)), y6, y7]) ?_ ?_ ⟨Grow.refl _, none, rfl⟩
    · rintro i d _ ω1 M hd ⟨g1, y6, rfl⟩ hM
      rw [List.getElem?_map, Option.map_eq_some_iff] at hd
      obtain ⟨q, hq, rfl⟩ := hd
      have kq := A.k q (List.mem_of_getElem? hq)
      refine ⟨trivial, w_gN ?_⟩
      simp only [List.set_cons_succ, List.set_cons_zero]
      refine w_seq (w_sifM false (fun ω2 => Grow ω ω2) (fun F hF => ?_) fun ω2 g2 => iteF (w_next ?_))
      · walk_at "t_w"
        intro a ha1
        have g2 : Grow ω (ω1.set a (handF ha)) := g1.put (g1.free ha1)
        have oh2 : HandR (ω1.set a (handF ha)) ha hh := oh.r.of fun b hb => by
          refine g2 b ?_
          rcases hb with rfl | rfl | ⟨r, hr, rfl⟩
          · rw [oh.r.i]; simp
          · rw [oh.r.d]; simp
          · rw [oh.r.r r hr]; simp
        refine ⟨a, ha, rfl, Om.set_same, rfl, ?_⟩
        rw [Om.set_set]
        have hp2 : (ω1.set a (handF ha)) a = some (handF ha) := Om.set_same
        have hp3 := hp2
        unfold handF at hp3
        refine insW_at hp3 ⟨rfl, ?_⟩
        walk_at "t_w"
        refine ⟨a, ha, hh, q, rfl, hp2, oh2, fun v ω3 g3 hv => ?_⟩
        show (oIn false : O2 K).w (.str q) (.lst ((L.map (·.1)).map .str)) ω3 _
        rw [in_strs (ts := L.map (·.1)) rfl]
        have ev : v = decide (q ∈ L.map (·.1)) := by
          rw [Bool.eq_iff_iff, hv, decide_eq_true_eq, List.mem_map]
          exact ⟨fun ⟨e, he, hk, _⟩ => ⟨e, hr.1.mem_iff.mpr he, hk⟩, fun ⟨e, he, hk⟩ => ⟨e, hr.1.mem_iff.mp he, hk, (ok e he).s.2⟩⟩
        rw [ev]
        have e2 := hF _ (g2.trans g3)
        walk_at "t_w"
        exact e2
      by_cases ce : L = []
      · subst ce
        refine w_seq (w_sifB true (fun F hF => ?_) (iteT ?_))
        · walk_at "t_w"
          exact hF
        walk_at "t_w"
        exact hM _ _ ⟨g2, _, rfl⟩
      obtain ⟨hp, hsv, mk⟩ := hp ce
      have hp4 := g2.at hp
      have hp5 := hp4
      unfold runF at hp5
      refine w_seq (w_sifB false (fun F hF => ?_) (iteF (w_next ?_)))
      · obtain ⟨e0, r0, rfl⟩ : ∃ e r, L = e :: r := by cases L; exact absurd rfl ce; exact ⟨_, _, rfl⟩
        walk_at "t_w"
        exact hF
      refine w_sifB false (fun F hF => ?_) (iteF (w_next (hM _ _ ⟨g2, _, rfl⟩)))
      walk_at "t_w"
      rw [in_strs (ts := L.map (·.1)) rfl]
      have sz : 0 < ((sieveSz (keysOf L) : Nat) : Int) := by
        have := uq_ne ce
        unfold sieveSz
        omega
      have mh : ∀ {Φ : D → Om → Prop}, Φ (.bl (mayB L b q)) ω2 → W_may_have [sv, .str q] ω2 Φ := fun {Φ} h => ⟨_, b, q, by rw [hsv]; rfl, sz, h⟩
      have fin2 : ∀ x : Bool, (oNe : O2 K).w (.bl x) (.bl x) ω2 (fun x ω1 => blW x fun b => F b ω1) := fun x => by
        walk_at "t_w"
        exact hF
      walk_at "t_w"
      refine iteI (fun cq => ?_) (fun cq => ?_)
      · obtain ⟨e, he, hk⟩ := List.mem_map.mp cq
        have mk1 := mayB_key mk ⟨e, he, hk⟩
        walk_at "t_w"
        refine ⟨p, n, L, b, q, rfl, hp4, ?_⟩
        rw [mk1]
        walk_at "t_w"
        refine ⟨p, n, L, b, q, rfl, hp4, ?_⟩
        refine mh ?_
        exact fin2 _
      · walk_at "t_w"
        refine ⟨p, n, L, b, q, rfl, hp4, ?_⟩
        refine mh ?_
        exact fin2 _
    · rintro _ ω1 ⟨g1, y6, rfl⟩
      exact ⟨trivial, hN _ _ ⟨g1, y6, rfl⟩⟩
  rintro _ ω1 ⟨g1, y6, rfl⟩
  walk_at "t_w"
  exact h _ g1
end
section
variable {K : Fg} {ω : Om} {Φ : D → Om → Prop} {Ψ : Exn → Om → Prop}
theorem mem_cut6 {α : Type} {t : List α} {lo hi : Option Int} {x : α} (h : x ∈ cut t lo hi) : x ∈ t := by
  unfold cut at h
  exact List.mem_of_mem_drop (List.mem_of_mem_take h)
theorem cut_map6 {α β : Type} (f : α → β) (l : List α) (lo hi : Option Int) : cut (l.map f) lo hi = (cut l lo hi).map f := by
  unfold cut
  rw [List.length_map, List.map_take, List.map_drop]
theorem cut_len6 {α : Type} (l : List α) (lo hi : Option Int) : (cut l lo hi).length ≤ l.length := by
  unfold cut
  rw [List.length_take, List.length_drop]
  omega
theorem atI_strs {L : List (List Nat)} {i : Int} (h1 : -((L.length : Nat) : Int) ≤ i) (h2 : i < (L.length : Nat)) : ∃ v ∈ L, atI (L.map D.str) i = some (.str v) := by
  unfold atI ixN
  rw [List.length_map]
  have key : ∀ j : Nat, j < L.length → ∃ v ∈ L, (L.map D.str)[j]? = some (.str v) := fun j hj => ⟨L[j], List.getElem_mem hj, by rw [List.getElem?_map, List.getElem?_eq_getElem hj]; rfl⟩
  by_cases c : 0 ≤ i
  · rw [if_pos c, if_pos h2]
    exact key _ (by omega)
  · rw [if_neg c, if_pos h1]
    exact key _ (by omega)
theorem putE_new {es : List Ent} {e : Ent} (h : ∀ x ∈ es, ¬ (x.1 = e.1 ∧ x.2.1 = e.2.1)) : putE es e = es ++ [e] := by
  unfold putE
  rw [List.filter_eq_self.mpr fun x hx => by rw [Bool.not_eq_true', decide_eq_false_iff_not]; exact h x hx]
theorem ne_nil6 {M : List Ent} (h : ∀ e ∈ M, OkE e) (q : Φ (.bl (!M.isEmpty)) ω) : (oNe : O2 K).w (.lst (M.map eD)) (.lst []) ω Φ := by
  have k := esD_ok h
  have k0 := esD_ok (rs := []) (fun e he => by cases he)
  rw [ne_Rs (d' := .lst (M.map eD)) (e' := .lst []) rfl (.base k.1) (.base k0.1) (Nat.le_trans k.2 (by omega)) (Nat.le_trans k0.2 (by omega))]
  cases M with
  | nil => exact q
  | cons e r => exact q
theorem OkHand.grow6 {ω' : Om} {ha : Addr} {h : HSt} (h2 : OkHand ω ha h) (g : Grow ω ω') : OkHand ω' ha h := by
  refine ⟨h2.r.of fun b hb => ?_, h2.n, h2.z⟩
  refine g b ?_
  rcases hb with rfl | rfl | ⟨r, hr, rfl⟩
  · rw [h2.r.i]; simp
  · rw [h2.r.d]; simp
  · rw [h2.r.r r hr]; simp
theorem hw_law : ∀ ds ω Φ, W_law ds ω Φ → (b_law : BS K).w (startD 15 ds) ω ⟨fun _ ω => Φ .non ω, Φ, fun _ _ => False, fun _ _ => False, fun _ _ _ => False⟩ := by
  rintro ds ω Φ ⟨ns, rfl, hz, _, h⟩
  unfold b_law
  refine w_cut (fun ρ1 ω1 => ∃ ws es, EntP ws es ∧ ρ1 = [some (.scr ns), some (.lst (es.map eD)), none, none, none, none, none, none, none, none, none, none, none, none, none]) (fun N hN => ?_) ?_
  · walk_at "t_w"
    refine ⟨ns, 1, rfl, by omega, ?_⟩
    walk_at "t_w"
    refine ⟨ns, 0, rfl, by omega, ?_⟩
    walk_at "t_w"
    refine ⟨_, rfl, fun m m0 m1 => ?_⟩
    walk_at "t_w"
    refine ⟨_, m, rfl, m0, m1, fun ω' ws es g E => ?_⟩
    exact hN _ _ ⟨ws, es, E, rfl⟩
  rintro _ ω1 ⟨ws, es, E, rfl⟩
  have ez := E.z
  have oke : ∀ e ∈ es, OkE e := fun e he => (E.e e he).1
  refine w_cut (fun ρ1 ω2 => ∃ L, OrdP es L ∧ ρ1 = [some (.scr ns), some (.lst (es.map eD)), some (.lst (L.map eD)), none, none, none, none, none, none, none, none, none, none, none, none]) (fun N hN => ?_) ?_
  · walk_at "t_w"
    refine ⟨es, rfl, ez, oke, E.d, fun L O => ?_⟩
    exact hN _ _ ⟨L, O, rfl⟩
  rintro _ ω2 ⟨L, O, rfl⟩
  have okL : ∀ e ∈ L, OkE e := fun e he => oke e (O.p.mem_iff.mp he)
  have lz : L.length ≤ 101 := by rw [O.p.length_eq]; exact ez
  refine w_cut (fun ρ1 ω3 => ∃ ha h, HandR ω3 ha h ∧ hEnts h = [] ∧ h.rs = [] ∧ ρ1 = [some (.scr ns), some (.lst (es.map eD)), some (.lst (L.map eD)), some (.ref ha), none, none, none, none, none, none, none, none, none, none, none]) (fun N hN => ?_) ?_
  · walk_at "t_w"
    intro ha hha
    refine ⟨ha, rfl, Om.set_same, fun d hd => ⟨rfl, ?_⟩⟩
    have da : d ≠ ha := fun e => by rw [e, Om.set_same] at hd; cases hd
    refine hN _ _ ⟨ha, ⟨d, []⟩, ⟨Om.set_same, by rw [Om.set_ne da, Om.set_same]; rfl, fun r hr => (by cases hr), by simp, by simp, fun r hr => (by cases hr), ⟨by simp, fun r hr => (by cases hr)⟩⟩, rfl, rfl, rfl⟩
  rintro _ ω3 ⟨ha, h0, R0, he0, hrs0, rfl⟩
  refine w_cut (fun ρ1 ω4 => ∃ (hh : HSt) (y4 : Option D), HandR ω4 ha hh ∧ (hEnts hh).Perm es ∧ (∀ r ∈ hh.rs, r.es.length ≤ 101) ∧ hh.rs.length ≤ 101 ∧ ρ1 = [some (.scr ns), some (.lst (es.map eD)), some (.lst (L.map eD)), some (.ref ha), y4, none, none, none, none, none, none, none, none, none, none]) (fun N hN => ?_) ?_
  · walk_at "t_w"
    refine for_go (fun i ρ1 ω4 => ∃ (hh : HSt) (y4 : Option D), HandR ω4 ha hh ∧ (hEnts hh).Perm (es.take i) ∧ hh.rs.length ≤ i ∧ (∀ r ∈ hh.rs, r.es.length ≤ i) ∧ ρ1 = [some (.scr ns), some (.lst (es.map eD)), some (.lst (L.map eD)), some (.ref ha), y4, none, none, none, none, none, none, none, none, none, none]) ?_ ?_ ⟨h0, none, R0, by rw [he0]; exact .nil, by rw [hrs0]; exact Nat.le_refl _, fun r hr => (by rw [hrs0] at hr; cases hr), rfl⟩
    · rintro i d _ ω4 M hd ⟨hh, y4, R, pe, l1, l2, rfl⟩ hM
      rw [List.getElem?_map, Option.map_eq_some_iff] at hd
      obtain ⟨e, he, rfl⟩ := hd
      have te : es.take (i + 1) = es.take i ++ [e] := by rw [List.take_succ, he]; rfl
      have il := (List.getElem?_eq_some_iff.mp he).1
      refine ⟨trivial, w_gN ?_⟩
      simp only [List.set_cons_succ, List.set_cons_zero]
      have hi := R.i
      unfold eD
      walk_at "t_w"
      refine ⟨ha, hh, e, rfl, R, by omega, fun r hr => by have := l2 r hr; omega, fun ω5 h' R' p' k1 k2 own off => ?_⟩
      refine hM _ _ ⟨h', _, R', ?_, by omega, k2 i l2, rfl⟩
      rw [te]
      refine p'.trans ?_
      rw [putE_new fun x hx => ?_]
      · exact pe.append_right _
      · have hx := pe.mem_iff.mp hx
        obtain ⟨j, hj⟩ := List.getElem?_of_mem hx
        rw [List.getElem?_take] at hj
        split at hj
        · rename_i ji
          obtain ⟨jl, ej⟩ := List.getElem?_eq_some_iff.mp hj
          obtain ⟨il, ei⟩ := List.getElem?_eq_some_iff.mp he
          have := List.pairwise_iff_getElem.mp E.d j i jl il ji
          rw [ej, ei] at this
          exact this
        · cases hj
    · rintro _ ω4 ⟨hh, y4, R, pe, l1, l2, rfl⟩
      rw [List.length_map] at l1 l2 pe
      rw [List.take_length] at pe
      exact ⟨trivial, hN _ _ ⟨hh, y4, R, pe, fun r hr => by have := l2 r hr; omega, by omega, rfl⟩⟩
  clear R0 he0 hrs0 h0
  rintro _ ω4 ⟨hh, y4, R, pe, l2, l3, rfl⟩
  have hr : HRows hh L := ⟨O.p.trans pe.symm, O.o⟩
  have kz : hh.rs.length < 64 := by
    have := nodup_len R.nk (m := ws) fun k hk => by
      obtain ⟨r, hr, rfl⟩ := List.mem_map.mp hk
      obtain ⟨_, ne⟩ := R.ns r hr
      obtain ⟨x, r', ex⟩ : ∃ x r', r.es = x :: r' := by cases hx : r.es; exact absurd hx ne; exact ⟨_, _, rfl⟩
      have : ((r.k, x.1, x.2) : Ent) ∈ hEnts hh := by
        unfold hEnts
        refine List.mem_flatten.mpr ⟨_, List.mem_map.mpr ⟨r, hr, rfl⟩, ?_⟩
        rw [ex]; simp
      exact (E.e _ (pe.mem_iff.mp this)).2
    rw [List.length_map] at this
    have := E.w.n2
    omega
  have oh : OkHand ω4 ha hh := ⟨R, kz, by rw [pe.length_eq]; omega⟩
  -- the words
  refine w_cut (fun ρ1 ω5 => ∃ ws1 : List (List Nat), Grow ω4 ω5 ∧ ws1.length ≤ 60 ∧ (∀ q ∈ ws1, okK 20 q) ∧ ρ1 = [some (.scr ns), some (.lst (es.map eD)), some (.lst (L.map eD)), some (.ref ha), y4, some (.lst (ws1.map .str)), none, none, none, none, none, none, none, none, none]) (fun N hN => ?_) ?_
  · walk_at "t_w"
    refine lc_mapT eD (fun e : Ent => D.str e.1) L (by omega) trivial (fun e he Q hQ => ?_) ?_
    · unfold eD
      walk_at "t_w"
      exact hQ
    rw [show L.map (fun e : Ent => D.str e.1) = (L.map (·.1)).map .str by rw [List.map_map]; rfl]
    refine ⟨ns, 1, rfl, by omega, ?_⟩
    walk_at "t_w"
    refine ⟨_, 3, rfl, by omega, by omega, fun ws2 r W2 hr2 => ?_⟩
    have hr3 : (ω4.set r (.lst (ws2.map .str))) r = some (.lst (ws2.map .str)) := Om.set_same
    have w2n := W2.n2
    walk_at "t_w"
    have z1 := cut_len6 (L.map (·.1)) none (some 4)
    have z2 := cut_len6 ws2 none (some 4)
    rw [List.length_map] at z1
    rw [cut_map6 D.str (L.map (·.1)), cut_map6 D.str ws2]
    have z3 : (cut (L.map (·.1)) none (some 4)).length ≤ 4 := by
      unfold cut HT.sIx
      rw [List.length_take]
      simp
      omega
    refine w_addL (by rw [sizeLine_eq, List.length_map, List.length_map]; omega) ?_
    rw [← List.map_append]
    refine hN _ _ ⟨_, Grow.set hr2, by rw [List.length_append]; omega, fun q hq => ?_, rfl⟩
    rcases List.mem_append.mp hq with z | z
    · obtain ⟨e, he, rfl⟩ := List.mem_map.mp (mem_cut6 z)
      exact (okL e he).k
    · exact W2.k q (mem_cut6 z)
  rintro _ ω5 ⟨ws1, g5, wz, wk, rfl⟩
  refine w_cut (fun ρ1 ω6 => ω6 = ω5 ∧ ∃ ws2 : List (List Nat), ws2.length ≤ 61 ∧ ws2 ≠ [] ∧ (∀ q ∈ ws2, okK 20 q) ∧ ρ1 = [some (.scr ns), some (.lst (es.map eD)), some (.lst (L.map eD)), some (.ref ha), y4, some (.lst (ws2.map .str)), none, none, none, none, none, none, none, none, none]) (fun N hN => ?_) ?_
  · walk_at "t_w"
    refine ⟨ns, 2, rfl, by omega, ?_⟩
    walk_at "t_w"
    refine c_sign fun c hc => ?_
    walk_at "t_w"
    rw [show ws1.map D.str ++ [.str [c]] = (ws1 ++ [[c]]).map .str by rw [List.map_append]; rfl]
    refine hN _ _ ⟨rfl, _, by rw [List.length_append]; simp; omega, by simp, fun q hq => ?_, rfl⟩
    rcases List.mem_append.mp hq with z | z
    · exact wk q z
    · rw [List.mem_singleton.mp z]; exact ⟨by rw [List.all_cons, hc]; rfl, by simp, by simp⟩
  rintro _ ω5 ⟨rfl, ws2, wz2, wne, wk2, rfl⟩
  clear wk wz
  refine w_cut (fun ρ1 ω6 => ω6 = ω5 ∧ ∃ ss : List Int, ss.length ≤ 200 ∧ ρ1 = [some (.scr ns), some (.lst (es.map eD)), some (.lst (L.map eD)), some (.ref ha), y4, some (.lst (ws2.map .str)), some (.lst (ss.map .int)), none, none, none, none, none, none, none, none]) (fun N hN => ?_) ?_
  · walk_at "t_w"
    refine ⟨ns, 2, rfl, by omega, ?_⟩
    walk_at "t_w"
    refine ⟨es, _, rfl, ez, fun ss sz => ?_⟩
    refine w_addL (by rw [sizeLine_eq, List.length_map]; simp; omega) ?_
    exact hN _ _ ⟨rfl, 999999999 :: 0 :: ss, by simp; omega, rfl⟩
  rintro _ ω5 ⟨rfl, ss, sz, rfl⟩
  have AP : AskP ws2 := ⟨by omega, wk2⟩
  obtain ⟨w0, wr, ew⟩ : ∃ w0 wr, ws2 = w0 :: wr := by cases ws2; exact absurd rfl wne; exact ⟨_, _, rfl⟩
  have kw0 := wk2 w0 (by rw [ew]; exact List.mem_cons_self)
  refine w_cut (fun ρ1 ω6 => ω6 = ω5 ∧ ∃ bs, BndP bs ∧ ρ1 = [some (.scr ns), some (.lst (es.map eD)), some (.lst (L.map eD)), some (.ref ha), y4, some (.lst (ws2.map .str)), some (.lst (ss.map .int)), some (.lst (bs.map bndD)), none, none, none, none, none, none, none]) (fun N hN => ?_) ?_
  · obtain ⟨wl, hwl, al⟩ := atI_strs (L := ws2) (i := -1) (by rw [ew]; simp; omega) (by omega)
    have a0 : atI (ws2.map D.str) 0 = some (.str w0) := by rw [ew, atI_nn (by omega)]; rfl
    have kwl := wk2 wl hwl
    have w0z := kw0.2.2
    walk_at "t_w"
    rw [a0, al]
    refine optW_iff.mpr ⟨_, rfl, optW_iff.mpr ⟨_, rfl, optW_iff.mpr ⟨_, rfl, optW_iff.mpr ⟨_, rfl, optW_iff.mpr ⟨_, rfl, optW_iff.mpr ⟨_, rfl, ?_⟩⟩⟩⟩⟩⟩
    walk_at "t_w"
    rw [cut_to _ (by decide)]
    have tz : (w0.take (19 : Int).toNat).length ≤ 20 := by rw [List.length_take]; omega
    walk_at "t_w"
    refine hN _ _ ⟨rfl, [([], none), (w0, none), ([], some wl), (wl, some w0), (w0, some (w0.take (19 : Int).toNat ++ [126]))], ⟨by simp, fun b hb => ?_⟩, rfl⟩
    simp only [List.mem_cons, List.not_mem_nil, or_false] at hb
    rcases hb with rfl | rfl | rfl | rfl | rfl
    · exact ⟨rfl, fun h e => by cases e⟩
    · exact ⟨kw0.1, fun h e => by cases e⟩
    · exact ⟨rfl, fun h e => by cases e; exact kwl.1⟩
    · exact ⟨kwl.1, fun h e => by cases e; exact kw0.1⟩
    · refine ⟨kw0.1, fun h e => ?_⟩
      cases e
      rw [List.all_append, Bool.and_eq_true]
      exact ⟨List.all_eq_true.mpr fun z hz => List.all_eq_true.mp kw0.1 z (List.mem_of_mem_take hz), by decide⟩
  rintro _ ω5 ⟨rfl, bs, BP, rfl⟩
  have oh5 := oh.grow6 g5
  have sz2 : (999999999 :: 0 :: ss).length ≤ 202 := by simp; omega
  have srt := O.o
  have dL : Dist L := dist_perm O.p E.d
  -- the hand's part
  refine w_cut (fun ρ1 ω6 => ∃ p, Grow ω5 ω6 ∧ ω6 p = some (handF ha) ∧ ρ1 = [some (.scr ns), some (.lst (es.map eD)), some (.lst (L.map eD)), some (.ref ha), y4, some (.lst (ws2.map .str)), some (.lst (ss.map .int)), some (.lst (bs.map bndD)), some (.ref p), none, none, none, none, none, none]) (fun N hN => ?_) ?_
  · walk_at "t_w"
    intro a ha1
    refine ⟨a, ha, rfl, Om.set_same, ?_⟩
    rw [Om.set_set]
    exact ⟨rfl, hN _ _ ⟨a, Grow.set ha1, Om.set_same, rfl⟩⟩
  rintro _ ω6 ⟨p, g6, hp, rfl⟩
  refine w_cut (fun ρ1 ω7 => ∃ p0, Grow ω6 ω7 ∧ ω7 p0 = some (.ins "Part" []) ∧ ρ1 = [some (.scr ns), some (.lst (es.map eD)), some (.lst (L.map eD)), some (.ref ha), y4, some (.lst (ws2.map .str)), some (.lst (ss.map .int)), some (.lst (bs.map bndD)), some (.ref p), some (.ref p0), none, none, none, none, none]) (fun N hN => ?_) ?_
  · walk_at "t_w"
    intro a ha1
    exact hN _ _ ⟨a, Grow.set ha1, Om.set_same, rfl⟩
  rintro _ ω7 ⟨p0, g7, hp0, rfl⟩
  have tl : ∀ {ω8 : Om} {q : Addr} {M : List Ent} {Φ : D → Om → Prop}, PartR ω8 q M → (M = L ∨ M = []) → (∀ ω', Grow ω8 ω' → Φ (.bl true) ω') → W__law_told [.ref q, .lst (M.map eD), .lst (ws2.map .str), .lst (ss.map .int), .lst (bs.map bndD)] ω8 Φ := fun {ω8 q M Φ} pr hM h => by
    refine ⟨q, M, ws2, ss, bs, rfl, pr, ?_, ?_, ?_, ?_, AP, sz, BP, h⟩
    · rcases hM with rfl | rfl
      · exact okL
      · intro e he; cases he
    · rcases hM with rfl | rfl
      · exact dL
      · exact List.Pairwise.nil
    · rcases hM with rfl | rfl
      · exact srt
      · exact List.Pairwise.nil
    · rcases hM with rfl | rfl
      · exact lz
      · exact Nat.zero_le _
  refine w_seq (w_sifM false (fun ω8 => Grow ω7 ω8) (fun F hF => ?_) fun ω8 g8 => iteF (w_next ?_))
  · walk_at "t_w"
    refine tl (.inr (.inl ⟨ha, hh, g7.at hp, oh5.grow6 (g6.trans g7), hr⟩)) (.inl rfl) fun ω8 g8 => ?_
    have hp8 := g8.at (g7.at hp)
    unfold handF at hp8
    walk_at "t_w"
    refine ⟨_, rfl, ?_⟩
    walk_at "t_w"
    exact hF _ g8
  refine w_seq (w_sifM false (fun ω9 => Grow ω7 ω9) (fun F hF => ?_) fun ω9 g9 => iteF (w_next ?_))
  · walk_at "t_w"
    refine tl (M := []) (.inl ⟨g8.at hp0, rfl⟩) (.inr rfl) fun ω9 g9 => ?_
    have hp9 := g9.at (g8.at hp0)
    walk_at "t_w"
    refine ⟨_, rfl, ?_⟩
    walk_at "t_w"
    rw [show atI (ws2.map D.str) 0 = some (.str w0) by rw [ew, atI_nn (by omega)]; rfl]
    refine optW_iff.mpr ⟨_, rfl, ?_⟩
    walk_at "t_w"
    refine ⟨_, _, rfl, ?_⟩
    walk_at "t_w"
    exact hF _ (g8.trans g9)
  have g59 := (g6.trans g7).trans g9
  refine w_cut (fun ρ1 ω10 => ω10 = ω9 ∧ ∃ n : Int, 0 ≤ n ∧ n ≤ 9999999 ∧ ρ1 = [some (.scr ns), some (.lst (es.map eD)), some (.lst (L.map eD)), some (.ref ha), y4, some (.lst (ws2.map .str)), some (.lst (ss.map .int)), some (.lst (bs.map bndD)), some (.ref p), some (.ref p0), some (.int n), none, none, none, none]) (fun N hN => ?_) ?_
  · walk_at "t_w"
    refine ⟨ns, 3, rfl, by omega, ?_⟩
    walk_at "t_w"
    refine hN _ _ ⟨rfl, _, ?_, ?_, rfl⟩
    · omega
    · omega
  rintro _ ω9 ⟨rfl, n, n0, n1, rfl⟩
  refine w_cut (fun ρ1 ω10 => ω10 = ω9 ∧ ρ1 = [some (.scr ns), some (.lst (es.map eD)), some (.lst (L.map eD)), some (.ref ha), y4, some (.lst (ws2.map .str)), some (.lst (ss.map .int)), some (.lst (bs.map bndD)), some (.ref p), some (.ref p0), some (.int n), some (.ref p0), none, none, none]) (fun N hN => ?_) ?_
  · walk_at "t_w"
    exact hN _ _ ⟨rfl, rfl⟩
  rintro _ ω9 ⟨rfl, rfl⟩
  refine w_cut (fun ρ1 ω10 => ω10 = ω9 ∧ ρ1 = [some (.scr ns), some (.lst (es.map eD)), some (.lst (L.map eD)), some (.ref ha), y4, some (.lst (ws2.map .str)), some (.lst (ss.map .int)), some (.lst (bs.map bndD)), some (.ref p), some (.ref p0), some (.int n), some (.ref p0), some (.tup [.int 8, .int 0]), none, none]) (fun N hN => ?_) ?_
  · walk_at "t_w"
    exact hN _ _ ⟨rfl, rfl⟩
  rintro _ ω9 ⟨rfl, rfl⟩
  refine w_cut (fun ρ1 ω10 => ∃ (q : Addr) (b : Nat) (sv : D) (y13 y14 : Option D), Grow ω9 ω10 ∧ (L ≠ [] → ω10 q = some (runF n L b) ∧ sv = sieveD L b ∧ Marks L b) ∧ ρ1 = [some (.scr ns), some (.lst (es.map eD)), some (.lst (L.map eD)), some (.ref ha), y4, some (.lst (ws2.map .str)), some (.lst (ss.map .int)), some (.lst (bs.map bndD)), some (.ref p), some (.ref p0), some (.int n), some (.ref q), some sv, y13, y14]) (fun N hN => ?_) ?_
  · by_cases ce : L = []
    · subst ce
      refine w_sifB false (fun F hF => ?_) (iteF (w_next ?_))
      · walk_at "t_w"
        exact ne_nil6 okL hF
      exact hN _ _ ⟨p0, 0, _, none, none, Grow.refl _, fun h => absurd rfl h, rfl⟩
    refine w_sifB true (fun F hF => ?_) (iteT ?_)
    · walk_at "t_w"
      refine ne_nil6 okL ?_
      rw [show (!L.isEmpty) = true by cases L; exact absurd rfl ce; rfl]
      exact hF
    refine w_cut (fun ρ1 ω10 => Grow ω9 ω10 ∧ ∃ b, Marks L b ∧ ρ1 = [some (.scr ns), some (.lst (es.map eD)), some (.lst (L.map eD)), some (.ref ha), y4, some (.lst (ws2.map .str)), some (.lst (ss.map .int)), some (.lst (bs.map bndD)), some (.ref p), some (.ref p0), some (.int n), some (.ref p0), some (.tup [.int 8, .int 0]), some (runD L b), none]) (fun N hN => ?_) ?_
    · walk_at "t_w"
      refine ⟨_, es, rfl, rfl, by omega, oke, E.d, fun rs b pr so mk => ?_⟩
      have := ord_one so O.o (pr.trans O.p.symm)
      subst this
      exact hN _ _ ⟨Grow.refl _, b, mk, rfl⟩
    rintro _ ω10 ⟨g10, b, mk, rfl⟩
    refine w_cut (fun ρ1 ω11 => ω11 = ω10 ∧ ρ1 = [some (.scr ns), some (.lst (es.map eD)), some (.lst (L.map eD)), some (.ref ha), y4, some (.lst (ws2.map .str)), some (.lst (ss.map .int)), some (.lst (bs.map bndD)), some (.ref p), some (.ref p0), some (.int n), some (.ref p0), some (sieveD L b), some (runD L b), none]) (fun N hN => ?_) ?_
    · unfold runD
      walk_at "t_w"
      exact hN _ _ ⟨rfl, rfl⟩
    rintro _ ω10 ⟨rfl, rfl⟩
    refine w_cut (fun ρ1 ω11 => ∃ q, Grow ω10 ω11 ∧ ω11 q = some (runF n L b) ∧ ρ1 = [some (.scr ns), some (.lst (es.map eD)), some (.lst (L.map eD)), some (.ref ha), y4, some (.lst (ws2.map .str)), some (.lst (ss.map .int)), some (.lst (bs.map bndD)), some (.ref p), some (.ref p0), some (.int n), some (.ref q), some (sieveD L b), some (runD L b), none]) (fun N hN => ?_) ?_
    · walk_at "t_w"
      intro a ha1
      refine ⟨a, n, L, b, rfl, Om.set_same, ?_⟩
      rw [Om.set_set]
      exact ⟨rfl, hN _ _ ⟨a, Grow.set ha1, Om.set_same, rfl⟩⟩
    rintro _ ω11 ⟨q, g11, hq, rfl⟩
    refine w_cut (fun ρ1 ω12 => ω12 = ω11 ∧ ρ1 = [some (.scr ns), some (.lst (es.map eD)), some (.lst (L.map eD)), some (.ref ha), y4, some (.lst (ws2.map .str)), some (.lst (ss.map .int)), some (.lst (bs.map bndD)), some (.ref p), some (.ref p0), some (.int n), some (.ref q), some (sieveD L b), some (runD L b), some (.str (runN n))]) (fun N hN => ?_) ?_
    · have sl : (strI n).length ≤ 7 := strI_lenB (k := 7) (by omega) n0 (by show n < ((10000000 : Nat) : Int); omega)
      have e1 : [114, 117, 110] ++ (List.replicate ((7 : Int) - ((strI n).length : Nat)).toNat [48]).flatten ++ strI n = runN n := by
        unfold runN zfL
        rw [show ((7 : Int) - ((strI n).length : Nat)).toNat = 7 - (strI n).length by omega, List.append_assoc]
        congr 2
        induction (7 - (strI n).length) with
        | zero => rfl
        | succ k ih => rw [List.replicate_succ, List.replicate_succ, List.flatten_cons, ih]; rfl
      have rz : ((List.replicate ((7 : Int) - ((strI n).length : Nat)).toNat [48]).flatten : List Nat).length ≤ 7 := by
        rw [List.length_flatten, List.map_replicate, List.sum_replicate_nat]
        show _ * 1 ≤ 7
        omega
      walk_at "t_w"
      refine w_addS (by rw [sizeLine_eq]; simp only [List.length_cons, List.length_nil]; omega) ?_
      refine w_addS (by rw [sizeLine_eq, List.length_append]; simp only [List.length_cons, List.length_nil]; omega) ?_
      rw [e1]
      exact hN _ _ ⟨rfl, rfl⟩
    rintro _ ω11 ⟨rfl, rfl⟩
    refine w_sifM false (fun ω12 => Grow ω11 ω12) (fun F hF => ?_) fun ω12 g12 => iteF (w_next ?_)
    · walk_at "t_w"
      refine tl (.inr (.inr ⟨n, b, hq, n0, n1, ⟨ce, by omega, okL, srt⟩, mk⟩)) (.inl rfl) fun ω12 g12 => ?_
      have hq12 := g12.at hq
      have hq13 := hq12
      unfold runF at hq13
      walk_at "t_w"
      refine ⟨q, n, L, b, rfl, hq12, n0, n1, ?_⟩
      walk_at "t_w"
      exact hF _ g12
    exact hN _ _ ⟨q, b, _, _, _, (g10.trans g11).trans g12, fun _ => ⟨g12.at hq, rfl, mk⟩, rfl⟩
  rintro _ ω10 ⟨q, b, sv, y13, y14, g10, hq, rfl⟩
  have oh10 := oh5.grow6 (g59.trans g10)
  refine w_seq (w_sifM false (fun ω11 => Grow ω10 ω11) (fun F hF => ?_) fun ω11 g11 => iteF (w_next ?_))
  · walk_at "t_w"
    refine ⟨ha, q, hh, n, b, sv, L, ws2, rfl, oh10, hr, okL, lz, hq, AP, fun ω11 g11 => ?_⟩
    walk_at "t_w"
    exact hF _ g11
  have oh11 := oh10.grow6 g11
  have hp11 : ω11 p = some (handF ha) := g11.at (g10.at (g9.at (g7.at hp)))
  refine w_cut (fun ρ1 ω12 => ∃ h', HandR ω12 ha h' ∧ (hEnts h').Perm (putE (hEnts hh) ([113], 7, some [119])) ∧ ω12 p = some (handF ha) ∧ ρ1 = [some (.scr ns), some (.lst (es.map eD)), some (.lst (L.map eD)), some (.ref ha), y4, some (.lst (ws2.map .str)), some (.lst (ss.map .int)), some (.lst (bs.map bndD)), some (.ref p), some (.ref p0), some (.int n), some (.ref q), some sv, y13, y14]) (fun N hN => ?_) ?_
  · have hi := oh11.r.i
    walk_at "t_w"
    refine ⟨ha, hh, ([113], 7, some [119]), rfl, oh11.r, by omega, fun r hr => by have := l2 r hr; omega, fun ω5 h' R' p' k1 k2 own off => ?_⟩
    have np : ¬ HA ha hh p := by
      rintro (e | e | ⟨r, hr, e⟩)
      · rw [e, oh11.r.i] at hp11; cases hp11
      · rw [e, oh11.r.d] at hp11; cases hp11
      · rw [e, oh11.r.r r hr] at hp11; cases hp11
    exact hN _ _ ⟨h', R', p', by rw [off p np (by rw [hp11]; simp)]; exact hp11, rfl⟩
  rintro _ ω12 ⟨h', R', p', hp12, rfl⟩
  have mq : (([113], 7, some [119]) : Ent) ∈ hEnts h' := p'.mem_iff.mpr (by unfold putE; simp)
  have hp13 := hp12
  unfold handF at hp13
  walk_at "t_w"
  have nw : ∀ {r}, Newest (hEnts h') [113] 7 r → r = some ([113], 7, some [119]) := fun {r} N => by
    cases r with
    | none => exact absurd (N.no rfl _ mq rfl) (by show ¬ ((7 : Int) > 7); omega)
    | some m =>
      obtain ⟨m1, m2, m3, m4⟩ := N.yes m rfl
      have m5 := m4 _ mq rfl (by show (7 : Int) ≤ 7; omega)
      have m6 : m.2.1 = 7 := by have : (7 : Int) ≤ m.2.1 := m5; omega
      have : m ∈ putE (hEnts hh) ([113], 7, some [119]) := p'.mem_iff.mp m1
      unfold putE at this
      rw [List.mem_append, List.mem_filter, List.mem_singleton] at this
      rcases this with ⟨_, c⟩ | c
      · rw [Bool.not_eq_true', decide_eq_false_iff_not] at c
        exact absurd ⟨m2, m6⟩ c
      · rw [c]
  refine ⟨p, ha, h', [113], 7, rfl, hp12, R', fun ω13 r g13 N => ?_⟩
  rw [nw N]
  have hp14 := g13.at hp13
  have R13 := R'.of fun b hb => by
    refine g13 b ?_
    rcases hb with rfl | rfl | ⟨r, hr, rfl⟩
    · rw [R'.i]; simp
    · rw [R'.d]; simp
    · rw [R'.r r hr]; simp
  unfold oE
  have oq : OkE (([113], 7, some [119]) : Ent) := ⟨⟨by decide, by decide, by decide⟩, ⟨by decide, by decide⟩, fun v hv => by cases hv; exact ⟨by decide, by decide⟩⟩
  have k := eD_ok oq
  show (oEq : O2 K).w (eD ([113], 7, some [119])) (eD ([113], 7, some [119])) ω13 _
  rw [eq_Rs (d' := eD ([113], 7, some [119])) (e' := eD ([113], 7, some [119])) rfl (.base k.1) (.base k.1) (Nat.le_trans k.2 (by omega)) (Nat.le_trans k.2 (by omega)), deq_refl _ k.1]
  walk_at "t_w"
  refine ⟨p, ha, h', [113], rfl, g13.at hp12, R13, fun v ω14 g14 hv => ?_⟩
  rw [hv.mpr ⟨_, mq, rfl, by show (7 : Int) ≤ 999999999; omega⟩]
  exact h _
end
section
theorem txt_of {K : Fg} {h : Heap} {mg : Str → Option Value} (X : K.In h) (G : h.Ns mainGlobals mg) (c : He.SaysD fa fn K) (hcs : cs_ K = true) : Txt K mg where
  m_all := He.free_ok X G (c.fact 0 (f := .free "all") rfl)
  m_bool := He.free_ok X G (c.fact 1 (f := .free "bool") rfl)
  m_int := He.free_ok X G (c.fact 2 (f := .free "int") rfl)
  m_isinstance := He.free_ok X G (c.fact 3 (f := .free "isinstance") rfl)
  m_len := He.free_ok X G (c.fact 4 (f := .free "len") rfl)
  m_list := He.free_ok X G (c.fact 5 (f := .free "list") rfl)
  m_max := He.free_ok X G (c.fact 6 (f := .free "max") rfl)
  m_min := He.free_ok X G (c.fact 7 (f := .free "min") rfl)
  m_ord := He.free_ok X G (c.fact 8 (f := .free "ord") rfl)
  m_range := He.free_ok X G (c.fact 9 (f := .free "range") rfl)
  m_set := He.free_ok X G (c.fact 10 (f := .free "set") rfl)
  m_sorted := He.free_ok X G (c.fact 11 (f := .free "sorted") rfl)
  m_str := He.free_ok X G (c.fact 12 (f := .free "str") rfl)
  m_tuple := He.free_ok X G (c.fact 13 (f := .free "tuple") rfl)
  m_zip := He.free_ok X G (c.fact 14 (f := .free "zip") rfl)
  c_FACTORS := ⟨He.glo_ok X G (c.fact 15 (f := .glo "FACTORS") rfl), tup_told (Bool.and_eq_true_iff.mp hcs).1 rfl⟩
  c_LAST_STAMP := He.int_ok X G (c.fact 16 (f := .int "LAST_STAMP" 999999999) rfl)
  c_LEAST_SIZE := He.int_ok X G (c.fact 17 (f := .int "LEAST_SIZE" 8) rfl)
  g_probe := He.glo_ok X G (c.fact 18 (f := .glo "probe") rfl)
  g_places := He.glo_ok X G (c.fact 19 (f := .glo "places") rfl)
  g_sieve_of := He.glo_ok X G (c.fact 20 (f := .glo "sieve_of") rfl)
  g_may_have := He.glo_ok X G (c.fact 21 (f := .glo "may_have") rfl)
  g_place_of := He.glo_ok X G (c.fact 22 (f := .glo "place_of") rfl)
  g_sieve_for := He.glo_ok X G (c.fact 23 (f := .glo "sieve_for") rfl)
  g_run_of := He.glo_ok X G (c.fact 24 (f := .glo "run_of") rfl)
  g_first_from := He.glo_ok X G (c.fact 25 (f := .glo "first_from") rfl)
  g_find := He.glo_ok X G (c.fact 26 (f := .glo "find") rfl)
  g_between := He.glo_ok X G (c.fact 27 (f := .glo "between") rfl)
  g_name_of := He.glo_ok X G (c.fact 28 (f := .glo "name_of") rfl)
  g__law_cell_at := He.glo_ok X G (c.fact 29 (f := .glo "_law_cell_at") rfl)
  g__law_whole := He.glo_ok X G (c.fact 30 (f := .glo "_law_whole") rfl)
  g__law_stream := He.glo_ok X G (c.fact 31 (f := .glo "_law_stream") rfl)
  g__law_sign := He.glo_ok X G (c.fact 32 (f := .glo "_law_sign") rfl)
  g__law_text := He.glo_ok X G (c.fact 33 (f := .glo "_law_text") rfl)
  g__law_keys := He.glo_ok X G (c.fact 34 (f := .glo "_law_keys") rfl)
  g__law_value := He.glo_ok X G (c.fact 35 (f := .glo "_law_value") rfl)
  g__law_entries := He.glo_ok X G (c.fact 36 (f := .glo "_law_entries") rfl)
  g__law_ordered := He.glo_ok X G (c.fact 37 (f := .glo "_law_ordered") rfl)
  g__law_stamps := He.glo_ok X G (c.fact 38 (f := .glo "_law_stamps") rfl)
  g__law_all_entries := He.glo_ok X G (c.fact 39 (f := .glo "_law_all_entries") rfl)
  g__law_many := He.glo_ok X G (c.fact 40 (f := .glo "_law_many") rfl)
  g__law_first := He.glo_ok X G (c.fact 41 (f := .glo "_law_first") rfl)
  g__law_between := He.glo_ok X G (c.fact 42 (f := .glo "_law_between") rfl)
  g__law_told := He.glo_ok X G (c.fact 43 (f := .glo "_law_told") rfl)
  g__law_says := He.glo_ok X G (c.fact 44 (f := .glo "_law_says") rfl)
  g_law := He.glo_ok X G (c.fact 45 (f := .glo "law") rfl)
  g_between_runs := He.glo_ok X G (c.fact 46 (f := .glo "between_runs") rfl)
  g_find_runs := He.glo_ok X G (c.fact 47 (f := .glo "find_runs") rfl)
  g_Hand := He.glo_ok X G (c.fact 48 (f := .glo "Hand") rfl)
  g_InHand := He.glo_ok X G (c.fact 49 (f := .glo "InHand") rfl)
  g_InRun := He.glo_ok X G (c.fact 50 (f := .glo "InRun") rfl)
  g_Part := He.glo_ok X G (c.fact 51 (f := .glo "Part") rfl)
  F_probe := c.def_ 0 (d := dd_probe) rfl
  k_probe := by
    obtain ⟨fd, F⟩ := c.def_ 0 (d := dd_probe) rfl
    exact F.kp
  F_places := c.def_ 1 (d := dd_places) rfl
  k_places := by
    obtain ⟨fd, F⟩ := c.def_ 1 (d := dd_places) rfl
    exact F.kp
  F_sieve_of := c.def_ 2 (d := dd_sieve_of) rfl
  k_sieve_of := by
    obtain ⟨fd, F⟩ := c.def_ 2 (d := dd_sieve_of) rfl
    exact F.kp
  F_may_have := c.def_ 3 (d := dd_may_have) rfl
  k_may_have := by
    obtain ⟨fd, F⟩ := c.def_ 3 (d := dd_may_have) rfl
    exact F.kp
  F_place_of := c.def_ 4 (d := dd_place_of) rfl
  k_place_of := by
    obtain ⟨fd, F⟩ := c.def_ 4 (d := dd_place_of) rfl
    exact F.kp
  F_sieve_for := c.def_ 5 (d := dd_sieve_for) rfl
  k_sieve_for := by
    obtain ⟨fd, F⟩ := c.def_ 5 (d := dd_sieve_for) rfl
    exact F.kp
  F_run_of := c.def_ 6 (d := dd_run_of) rfl
  k_run_of := by
    obtain ⟨fd, F⟩ := c.def_ 6 (d := dd_run_of) rfl
    exact F.kp
  F_first_from := c.def_ 7 (d := dd_first_from) rfl
  k_first_from := by
    obtain ⟨fd, F⟩ := c.def_ 7 (d := dd_first_from) rfl
    exact F.kp
  F_find := c.def_ 8 (d := dd_find) rfl
  k_find := by
    obtain ⟨fd, F⟩ := c.def_ 8 (d := dd_find) rfl
    exact F.kp
  F_between := c.def_ 9 (d := dd_between) rfl
  k_between := by
    obtain ⟨fd, F⟩ := c.def_ 9 (d := dd_between) rfl
    exact F.kp
  F_name_of := c.def_ 10 (d := dd_name_of) rfl
  k_name_of := by
    obtain ⟨fd, F⟩ := c.def_ 10 (d := dd_name_of) rfl
    exact F.kp
  F_Part_called := c.def_ 11 (d := dd_Part_called) rfl
  F_Part_says := c.def_ 12 (d := dd_Part_says) rfl
  F_Part_find := c.def_ 13 (d := dd_Part_find) rfl
  F_Part_between := c.def_ 14 (d := dd_Part_between) rfl
  F_InHand___init__ := c.def_ 15 (d := dd_InHand___init__) rfl
  F_InHand_called := c.def_ 16 (d := dd_InHand_called) rfl
  F_InHand_says := c.def_ 17 (d := dd_InHand_says) rfl
  F_InHand_find := c.def_ 18 (d := dd_InHand_find) rfl
  F_InHand_between := c.def_ 19 (d := dd_InHand_between) rfl
  F_InRun___init__ := c.def_ 20 (d := dd_InRun___init__) rfl
  F_InRun_called := c.def_ 21 (d := dd_InRun_called) rfl
  F_InRun_says := c.def_ 22 (d := dd_InRun_says) rfl
  F_InRun_find := c.def_ 23 (d := dd_InRun_find) rfl
  F_InRun_between := c.def_ 24 (d := dd_InRun_between) rfl
  F_Hand___init__ := c.def_ 25 (d := dd_Hand___init__) rfl
  F_Hand_put := c.def_ 26 (d := dd_Hand_put) rfl
  F_Hand_find := c.def_ 27 (d := dd_Hand_find) rfl
  F_Hand_greatest := c.def_ 28 (d := dd_Hand_greatest) rfl
  F_Hand_rows := c.def_ 29 (d := dd_Hand_rows) rfl
  F_Hand_between := c.def_ 30 (d := dd_Hand_between) rfl
  F__law_cell_at := c.def_ 31 (d := dd__law_cell_at) rfl
  k__law_cell_at := by
    obtain ⟨fd, F⟩ := c.def_ 31 (d := dd__law_cell_at) rfl
    exact F.kp
  F__law_whole := c.def_ 32 (d := dd__law_whole) rfl
  k__law_whole := by
    obtain ⟨fd, F⟩ := c.def_ 32 (d := dd__law_whole) rfl
    exact F.kp
  F__law_stream := c.def_ 33 (d := dd__law_stream) rfl
  k__law_stream := by
    obtain ⟨fd, F⟩ := c.def_ 33 (d := dd__law_stream) rfl
    exact F.kp
  F__law_sign := c.def_ 34 (d := dd__law_sign) rfl
  k__law_sign := by
    obtain ⟨fd, F⟩ := c.def_ 34 (d := dd__law_sign) rfl
    exact F.kp
  F__law_text := c.def_ 35 (d := dd__law_text) rfl
  k__law_text := by
    obtain ⟨fd, F⟩ := c.def_ 35 (d := dd__law_text) rfl
    exact F.kp
  F__law_keys := c.def_ 36 (d := dd__law_keys) rfl
  k__law_keys := by
    obtain ⟨fd, F⟩ := c.def_ 36 (d := dd__law_keys) rfl
    exact F.kp
  F__law_value := c.def_ 37 (d := dd__law_value) rfl
  k__law_value := by
    obtain ⟨fd, F⟩ := c.def_ 37 (d := dd__law_value) rfl
    exact F.kp
  F__law_entries := c.def_ 38 (d := dd__law_entries) rfl
  k__law_entries := by
    obtain ⟨fd, F⟩ := c.def_ 38 (d := dd__law_entries) rfl
    exact F.kp
  F__law_ordered := c.def_ 39 (d := dd__law_ordered) rfl
  k__law_ordered := by
    obtain ⟨fd, F⟩ := c.def_ 39 (d := dd__law_ordered) rfl
    exact F.kp
  F__law_stamps := c.def_ 40 (d := dd__law_stamps) rfl
  k__law_stamps := by
    obtain ⟨fd, F⟩ := c.def_ 40 (d := dd__law_stamps) rfl
    exact F.kp
  F__law_all_entries := c.def_ 41 (d := dd__law_all_entries) rfl
  k__law_all_entries := by
    obtain ⟨fd, F⟩ := c.def_ 41 (d := dd__law_all_entries) rfl
    exact F.kp
  F__law_many := c.def_ 42 (d := dd__law_many) rfl
  k__law_many := by
    obtain ⟨fd, F⟩ := c.def_ 42 (d := dd__law_many) rfl
    exact F.kp
  F__law_first := c.def_ 43 (d := dd__law_first) rfl
  k__law_first := by
    obtain ⟨fd, F⟩ := c.def_ 43 (d := dd__law_first) rfl
    exact F.kp
  F__law_between := c.def_ 44 (d := dd__law_between) rfl
  k__law_between := by
    obtain ⟨fd, F⟩ := c.def_ 44 (d := dd__law_between) rfl
    exact F.kp
  F__law_told := c.def_ 45 (d := dd__law_told) rfl
  k__law_told := by
    obtain ⟨fd, F⟩ := c.def_ 45 (d := dd__law_told) rfl
    exact F.kp
  F__law_says := c.def_ 46 (d := dd__law_says) rfl
  k__law_says := by
    obtain ⟨fd, F⟩ := c.def_ 46 (d := dd__law_says) rfl
    exact F.kp
  F_law := c.def_ 47 (d := dd_law) rfl
  k_law := by
    obtain ⟨fd, F⟩ := c.def_ 47 (d := dd_law) rfl
    exact F.kp
  a_between_runs := (Bool.and_eq_true_iff.mp (Bool.and_eq_true_iff.mp hcs).2).1
  a_find_runs := (Bool.and_eq_true_iff.mp (Bool.and_eq_true_iff.mp (Bool.and_eq_true_iff.mp hcs).2).2).1
  x_InHand := ⟨(Bool.and_eq_true_iff.mp (Bool.and_eq_true_iff.mp (Bool.and_eq_true_iff.mp (Bool.and_eq_true_iff.mp hcs).2).2).2).1⟩
  x_Hand := ⟨(Bool.and_eq_true_iff.mp (Bool.and_eq_true_iff.mp (Bool.and_eq_true_iff.mp (Bool.and_eq_true_iff.mp (Bool.and_eq_true_iff.mp hcs).2).2).2).2).1⟩
  x_InRun := ⟨(Bool.and_eq_true_iff.mp (Bool.and_eq_true_iff.mp (Bool.and_eq_true_iff.mp (Bool.and_eq_true_iff.mp (Bool.and_eq_true_iff.mp (Bool.and_eq_true_iff.mp hcs).2).2).2).2).2).1⟩
  x_Part_InHand_InRun := ⟨(Bool.and_eq_true_iff.mp (Bool.and_eq_true_iff.mp (Bool.and_eq_true_iff.mp (Bool.and_eq_true_iff.mp (Bool.and_eq_true_iff.mp (Bool.and_eq_true_iff.mp (Bool.and_eq_true_iff.mp hcs).2).2).2).2).2).2).1⟩
  x_Part_InRun := ⟨(Bool.and_eq_true_iff.mp (Bool.and_eq_true_iff.mp (Bool.and_eq_true_iff.mp (Bool.and_eq_true_iff.mp (Bool.and_eq_true_iff.mp (Bool.and_eq_true_iff.mp (Bool.and_eq_true_iff.mp (Bool.and_eq_true_iff.mp hcs).2).2).2).2).2).2).2).1⟩
  x_Part := ⟨(Bool.and_eq_true_iff.mp (Bool.and_eq_true_iff.mp (Bool.and_eq_true_iff.mp (Bool.and_eq_true_iff.mp (Bool.and_eq_true_iff.mp (Bool.and_eq_true_iff.mp (Bool.and_eq_true_iff.mp (Bool.and_eq_true_iff.mp (Bool.and_eq_true_iff.mp hcs).2).2).2).2).2).2).2).2).1⟩
  i_Part := (Bool.and_eq_true_iff.mp (Bool.and_eq_true_iff.mp (Bool.and_eq_true_iff.mp (Bool.and_eq_true_iff.mp (Bool.and_eq_true_iff.mp (Bool.and_eq_true_iff.mp (Bool.and_eq_true_iff.mp (Bool.and_eq_true_iff.mp (Bool.and_eq_true_iff.mp (Bool.and_eq_true_iff.mp hcs).2).2).2).2).2).2).2).2).2).1
  o_Part_Part_InHand_InRun := (Bool.and_eq_true_iff.mp (Bool.and_eq_true_iff.mp (Bool.and_eq_true_iff.mp (Bool.and_eq_true_iff.mp (Bool.and_eq_true_iff.mp (Bool.and_eq_true_iff.mp (Bool.and_eq_true_iff.mp (Bool.and_eq_true_iff.mp (Bool.and_eq_true_iff.mp (Bool.and_eq_true_iff.mp hcs).2).2).2).2).2).2).2).2).2).2
theorem all_ok {P : Program} {w : World} {K : Fg} {mg : Str → Option Value} {base : Heap} (T : Txt K mg) (TK : TabK K tf) (TB : TabsB base mg K tf) : Ok_law P w K mg base := by
  have in_probe : In_probe P w K mg base := dv_probe_in T  hw_probe_in
  have ok_probe : Ok_probe P w K mg base := dv_probe T TK TB
  have ok_places : Ok_places P w K mg base := dv_places T  ok_probe in_probe hw_places
  have ok_sieve_of : Ok_sieve_of P w K mg base := dv_sieve_of T  ok_places hw_sieve_of
  have ok_may_have : Ok_may_have P w K mg base := dv_may_have T  ok_places hw_may_have
  have ok_place_of : Ok_place_of P w K mg base := dv_place_of T   hw_place_of
  have ok_sieve_for : Ok_sieve_for P w K mg base := dv_sieve_for T  ok_sieve_of hw_sieve_for
  have ok_run_of : Ok_run_of P w K mg base := dv_run_of T  ok_place_of ok_sieve_for hw_run_of
  have ok_first_from : Ok_first_from P w K mg base := dv_first_from T  ok_place_of hw_first_from
  have ok_find : Ok_find P w K mg base := dv_find T  ok_first_from ok_may_have hw_find
  have ok_between : Ok_between P w K mg base := dv_between T  ok_first_from hw_between
  have ok_name_of : Ok_name_of P w K mg base := dv_name_of T   hw_name_of
  have ok_Part_called : Ok_Part_called P w K mg base := dv_Part_called T   hw_Part_called
  have ok_Part_says : Ok_Part_says P w K mg base := dv_Part_says T   hw_Part_says
  have ok_Part_find : Ok_Part_find P w K mg base := dv_Part_find T   hw_Part_find
  have ok_Part_between : Ok_Part_between P w K mg base := dv_Part_between T   hw_Part_between
  have ok_InHand___init__ : Ok_InHand___init__ P w K mg base := dv_InHand___init__ T   hw_InHand___init__
  have ok_InHand_called : Ok_InHand_called P w K mg base := dv_InHand_called T   hw_InHand_called
  have ok_Hand_find : Ok_Hand_find P w K mg base := dv_Hand_find T   hw_Hand_find
  have ok_InHand_says : Ok_InHand_says P w K mg base := dv_InHand_says T  ok_Hand_find hw_InHand_says
  have ok_InHand_find : Ok_InHand_find P w K mg base := dv_InHand_find T  ok_Hand_find hw_InHand_find
  have ok_Hand_rows : Ok_Hand_rows P w K mg base := dv_Hand_rows T TK TB  hw_Hand_rows
  have ok_Hand_between : Ok_Hand_between P w K mg base := dv_Hand_between T  ok_Hand_rows hw_Hand_between
  have ok_InHand_between : Ok_InHand_between P w K mg base := dv_InHand_between T  ok_Hand_between hw_InHand_between
  have ok_InRun___init__ : Ok_InRun___init__ P w K mg base := dv_InRun___init__ T   hw_InRun___init__
  have ok_InRun_called : Ok_InRun_called P w K mg base := dv_InRun_called T  ok_name_of hw_InRun_called
  have ok_InRun_says : Ok_InRun_says P w K mg base := dv_InRun_says T  ok_may_have hw_InRun_says
  have ok_InRun_find : Ok_InRun_find P w K mg base := dv_InRun_find T  ok_find hw_InRun_find
  have ok_InRun_between : Ok_InRun_between P w K mg base := dv_InRun_between T  ok_between hw_InRun_between
  have ok_Hand___init__ : Ok_Hand___init__ P w K mg base := dv_Hand___init__ T   hw_Hand___init__
  have ok_Hand_put : Ok_Hand_put P w K mg base := dv_Hand_put T   hw_Hand_put
  have ok_Hand_greatest : Ok_Hand_greatest P w K mg base := dv_Hand_greatest T   hw_Hand_greatest
  have ok__law_cell_at : Ok__law_cell_at P w K mg base := dv__law_cell_at T   hw__law_cell_at
  have ok__law_whole : Ok__law_whole P w K mg base := dv__law_whole T   hw__law_whole
  have ok__law_stream : Ok__law_stream P w K mg base := dv__law_stream T   hw__law_stream
  have ok__law_sign : Ok__law_sign P w K mg base := dv__law_sign T   hw__law_sign
  have ok__law_text : Ok__law_text P w K mg base := dv__law_text T  ok__law_sign ok__law_stream hw__law_text
  have ok__law_keys : Ok__law_keys P w K mg base := dv__law_keys T  ok__law_sign ok__law_stream ok__law_text hw__law_keys
  have ok__law_value : Ok__law_value P w K mg base := dv__law_value T  ok__law_text hw__law_value
  have ok__law_entries : Ok__law_entries P w K mg base := dv__law_entries T  ok__law_keys ok__law_stream ok__law_value hw__law_entries
  have ok__law_ordered : Ok__law_ordered P w K mg base := dv__law_ordered T TK TB  hw__law_ordered
  have ok__law_stamps : Ok__law_stamps P w K mg base := dv__law_stamps T  ok__law_stream hw__law_stamps
  have ok__law_all_entries : Ok__law_all_entries P w K mg base := dv__law_all_entries T  ok__law_whole hw__law_all_entries
  have ok__law_many : Ok__law_many P w K mg base := dv__law_many T   hw__law_many
  have ok__law_first : Ok__law_first P w K mg base := dv__law_first T   hw__law_first
  have ok__law_between : Ok__law_between P w K mg base := dv__law_between T   hw__law_between
  have ok__law_told : Ok__law_told P w K mg base := dv__law_told T  ok_InHand_between ok_InHand_called ok_InHand_find ok_InHand_says ok_InRun_between ok_InRun_called ok_InRun_find ok_InRun_says ok_Part_between ok_Part_called ok_Part_find ok_Part_says ok__law_all_entries ok__law_between ok__law_first hw__law_told
  have ok__law_says : Ok__law_says P w K mg base := dv__law_says T  ok_InHand___init__ ok_InHand_says ok_InRun_says ok_Part_says ok_may_have hw__law_says
  have ok_law : Ok_law P w K mg base := dv_law T  ok_Hand___init__ ok_Hand_put ok_InHand___init__ ok_InHand_called ok_InHand_find ok_InHand_says ok_InRun___init__ ok_InRun_called ok_InRun_find ok_InRun_says ok_Part_called ok_Part_find ok_Part_says ok__law_cell_at ok__law_entries ok__law_keys ok__law_many ok__law_ordered ok__law_says ok__law_sign ok__law_stamps ok__law_told ok_run_of hw_law
  exact ok_law
end
end G
open PySem PySem.W PySem.Calls PyProof.Rows
theorem PySem.Challenge.cw_tierstore_k60_parts_tell_holds : PySem.Challenge.rw_tierstore_k60_parts_tell.Holds := by
  w_on; o_law
  refine HandSHeadRun.head_any (r := OpenLaw.row PySem.Challenge.rw_tierstore_k60_parts_tell) (q := view (OpenLaw.row PySem.Challenge.rw_tierstore_k60_parts_tell).prog [45]) (H := G.hk) (ob := G.ob) (M := 5360) (loose := G.names) (d := HandSHeadRun.topDef (OpenLaw.row PySem.Challenge.rw_tierstore_k60_parts_tell).prog 45) (kwd := []) G.ob_eq
    (by kernel_rfl) (fun s => by kernel_rfl) G.run (by kernel_rfl) (by kernel_rfl) (by kernel_rfl) (by rfl) (by first | assumption | decide +kernel) (by decide +kernel) ⟨rfl, rfl, rfl, rfl, rfl, by decide +kernel⟩ ?hw ?hc
  case hw => w_witness2
  case hc =>
  refine LamX.walk_ofTsE (l := PySem.Challenge.rw_tierstore_k60_parts_tell) (n := 63) (k := 8) (x := "_law_script") (CX := fun _ => L2.CX0) rfl (by decide) (by kernel_rfl) ⟨rfl, by decide, by decide⟩ ?F (fun _ _ _ _ _ z => z)
  intro w mg fa h Y Gn hmg0
  have hmg : mg ("law" : PySem.Str) = some (.ref fa) := by
    have e : (HandSHeadRun.topDef (OpenLaw.row PySem.Challenge.rw_tierstore_k60_parts_tell).prog 45).name = ("law" : PySem.Str) := by kernel_rfl
    rw [← e]
    exact hmg0
  obtain ⟨K, KX, c⟩ := Y
  obtain ⟨c2, hcs⟩ := _root_.T.says_exL c
  have T := G.txt_of KX Gn c.t.d hcs
  have TK := _root_.T.tabK_of c2
  exact ⟨K, KX, _root_.T.law_at KX TK (fun p hp => c.empty p hp) (name := "law") (st := G.s_law) hmg T.g_law T.F_law (fun _ _ _ _ _ _ us hl => match us, hl with | [_], _ => rfl) fun base h1 h2 TB => G.all_ok T TK TB⟩
