import PyProof.Rows.All
import HandS.ExcField
import Wide.All
import OpenK.AllK
import Wide.FinOn
import KE.KStateDown
import Lean
import HandS.Base
import HandS.Call
import HandS.Ends
import HandS.More
import HandS.Words
import HandS.WordsExc
import HandS.Defaults
import HandS.ExcInit
import HandS.ClsMeth
import HandS.Head0
import HandS.Head1
import HandS.Head2
import HandS.HeadEnd
import HandS.HeadHook1
import HandS.HeadHook2
import HandS.HeadHook3
import HandS.HeadHook4
import PySem.Challenge.RW_wholesay_k25_whole_unions_sums_stars
import HandS.List
import HandS.Comp
import HandS.Dict
import HandS.Iter
import HandS.Walk
import HandS.Zip
import HandS.Deep
import HandS.TupAny
import HandS.TupMul
import HandS.IsInst
import HandS.Style
import HandS.Exc
import HandS.TryMany
import KE.SortData
import KE.DataMinMax
import KE.KDictSum
import KE.KDictCopyH
import PyProof.ReprReads
import PyProof.Rows.SeqRoads
import PyProof.Transfer
import HandS.Zip0
import KE.GoesMore
import HandS.DictComp
import KE.KeyNested
import KE.KDictKeyed
import KE.DatumOrd
import PyProof.ReprLen
set_option Elab.async false
set_option linter.all false
set_option maxRecDepth 100000
set_option maxHeartbeats 0
namespace Wh
open PySem PySem.Spec PyProof.Rows L2
def top (i : Nat) : Stmt := PySem.Challenge.pw_wholesay_k25_whole_unions_sums_stars.main.body.getD i (.Pass ⟨0, 0, 0, 0⟩)
abbrev s_is_from : Stmt := top 7
abbrev s_is_vector : Stmt := top 12
abbrev s_is_line : Stmt := top 13
abbrev s_need_set : Stmt := top 14
abbrev s_line_of : Stmt := top 15
abbrev s_set_with : Stmt := top 16
abbrev s_added : Stmt := top 19
abbrev s_need_short : Stmt := top 20
abbrev s_need_two : Stmt := top 21
abbrev s_union : Stmt := top 22
abbrev s_sum_of : Stmt := top 23
abbrev s_choices_from : Stmt := top 24
abbrev s_star : Stmt := top 25
abbrev s_l_mixed : Stmt := top 27
abbrev s_l_begin : Stmt := top 28
abbrev s_l_draw : Stmt := top 29
abbrev s_l_row : Stmt := top 30
abbrev s_l_grid : Stmt := top 31
abbrev s_l_fills : Stmt := top 32
abbrev s_l_has : Stmt := top 33
abbrev s_l_like : Stmt := top 34
abbrev s_l_minus : Stmt := top 35
abbrev s_l_lines : Stmt := top 36
abbrev s_l_plus : Stmt := top 37
abbrev s_l_clean : Stmt := top 38
abbrev s_l_choices : Stmt := top 39
abbrev s_l_star_lines : Stmt := top 40
abbrev s_l_sums : Stmt := top 41
abbrev s_l_star_rows : Stmt := top 42
abbrev s_l_refusal : Stmt := top 43
abbrev s_l_refusals_right : Stmt := top 44
abbrev s_l_unions_right : Stmt := top 45
abbrev s_l_great_right : Stmt := top 46
abbrev s_law : Stmt := top 47
abbrev s_BadSet : Stmt := inClass (top 2) 0
abbrev s_Unlike : Stmt := inClass (top 3) 0
abbrev s_TooGreat : Stmt := inClass (top 4) 0
abbrev FnP (K : PySem.W.Frag) (x : Str) (st : Stmt) (f : Addr) (fd : FuncData) : Prop := FunD K x x (defArgs st) (defBody st) (defScope st) [] [] f fd
abbrev FnI (K : PySem.W.Frag) (q : Str) (st : Stmt) (f : Addr) (fd : FuncData) : Prop := FunD K "__init__" q (defArgs st) (defBody st) (defScope st) [] [] f fd
def dOf (x : Str) (st : Stmt) : He.DefD := ⟨(x, none), x, x, defArgs st, defBody st, defScope st, [], []⟩
def iOf (c q : Str) (st : Stmt) : He.DefD := ⟨(c, some "__init__"), "__init__", q, defArgs st, defBody st, defScope st, [], []⟩
def fnA : List He.DefD := [dOf "is_from" s_is_from, dOf "is_vector" s_is_vector, dOf "is_line" s_is_line, dOf "need_set" s_need_set, dOf "line_of" s_line_of, dOf "set_with" s_set_with, dOf "added" s_added, dOf "need_short" s_need_short, dOf "need_two" s_need_two, dOf "union" s_union, dOf "sum_of" s_sum_of, dOf "choices_from" s_choices_from, dOf "star" s_star, dOf "_law_mixed" s_l_mixed, dOf "_law_begin" s_l_begin, dOf "_law_draw" s_l_draw, dOf "_law_row" s_l_row, dOf "_law_grid" s_l_grid, dOf "_law_fills" s_l_fills, dOf "_law_has" s_l_has]
def fnB : List He.DefD := [dOf "_law_like" s_l_like, dOf "_law_minus" s_l_minus, dOf "_law_lines" s_l_lines, dOf "_law_plus" s_l_plus, dOf "_law_clean" s_l_clean, dOf "_law_choices" s_l_choices, dOf "_law_star_lines" s_l_star_lines, dOf "_law_sums" s_l_sums, dOf "_law_star_rows" s_l_star_rows, dOf "_law_refusal" s_l_refusal, dOf "_law_refusals_right" s_l_refusals_right, dOf "_law_unions_right" s_l_unions_right, dOf "_law_great_right" s_l_great_right, dOf "law" s_law, iOf "BadSet" "BadSet.__init__" s_BadSet, iOf "Unlike" "Unlike.__init__" s_Unlike, iOf "TooGreat" "TooGreat.__init__" s_TooGreat]
def fn : List He.DefD := fnA ++ fnB
def fa0 : List He.Fa := [.glo "is_from", .glo "is_vector", .glo "is_line", .glo "need_set", .glo "line_of", .glo "set_with", .glo "added", .glo "need_short", .glo "need_two", .glo "union", .glo "sum_of", .glo "choices_from", .glo "star", .glo "_law_mixed", .glo "_law_begin", .glo "_law_draw", .glo "_law_row", .glo "_law_grid", .glo "_law_fills", .glo "_law_has"]
def fa1 : List He.Fa := [.glo "_law_like", .glo "_law_minus", .glo "_law_lines", .glo "_law_plus", .glo "_law_clean", .glo "_law_choices", .glo "_law_star_lines", .glo "_law_sums", .glo "_law_star_rows", .glo "_law_refusal", .glo "_law_refusals_right", .glo "_law_unions_right", .glo "_law_great_right", .glo "law", .glo "SayError", .glo "BadSet", .glo "Unlike", .glo "TooGreat", .free "isinstance", .free "tuple"]
def fa2 : List He.Fa := [.free "int", .free "bool", .free "len", .free "enumerate", .free "max", .free "min", .free "sorted", .free "range", .free "zip", .free "list", .free "repr", .int "WIDEST" 4, .int "MOST_NUMBER" 1000000000, .int "MOST_PERIODS" 12, .int "MOST_LINES" 400, .int "MOST_STARRED" 8]
def fa : List He.Fa := fa0 ++ fa1 ++ fa2
def exB (K : PySem.W.Frag) (x : Str) : Bool :=
  (match K.lookup (He.ga K x) with
    | some ⟨.type t, _, .cls cd, sl⟩ => decide (t = "type") && ((match cd.mro with
        | c :: bm => decide (c = .ref (He.ga K x)) && PySem.HandSPX.refsVE bm
        | [] => false) && (cd.hasDict && (!cd.hasDel && (match sl.toList with
        | [_, _, _, _, some (.builtin n), _] => decide (n = "ValueError.__new__")
        | _ => false))))
    | _ => false) &&
  (decide (PySem.W.findIn K (.ref (He.ga K x)) "__setattr__" = some (some (.builtin "object.__setattr__"))) &&
  (decide (PySem.W.subIn K (.ref (He.ga K x)) (.type "BaseException") = some true) &&
  (decide (PySem.W.typeIn K (.ref (He.ga K x)) = some (.type "type")) && PySem.W.keepIn K (.ref (He.ga K x)))))
def inB (K : PySem.W.Frag) (x f : Str) : Bool :=
  decide (PySem.W.findIn K (.ref (He.ga K x)) "__init__" = some (some (.ref (He.ma K (He.ga K x) "__init__")))) &&
  (decide (PySem.W.typeIn K (.ref (He.ma K (He.ga K x) "__init__")) = some (.type "function")) && (decide (PySem.W.findIn K (.ref (He.ga K x)) f = some none) && L2.xfB K (He.ga K x)))
def saB (K : PySem.W.Frag) : Bool :=
  PySem.W.readsIn K (He.ga K "SayError") (.type "type") &&
  (decide (PySem.W.specialIn K (.ref (He.ga K "SayError")) "__getattribute__" = some (some (.builtin "type.__getattribute__"))) &&
   (match PySem.W.findCls K (.ref (He.ga K "SayError")) (.type "type") "__init__" with
    | some (.val (.builtin n)) => decide (n = "ValueError.__init__")
    | _ => false))
def exmB (K : PySem.W.Frag) (x y : Str) (b : Bool) : Bool := decide (PySem.W.exmOne K (.ref (He.ga K x)) (.ref (He.ga K y)) = some b)
def clB : List Str := ["BadSet", "Unlike", "TooGreat"]
def ex (K : PySem.W.Frag) : Bool :=
  (exB K "BadSet" && (exB K "Unlike" && exB K "TooGreat")) && ((inB K "BadSet" "place" && (inB K "Unlike" "value" && inB K "TooGreat" "most")) && (saB K &&
    (clB.all fun x => clB.all fun y => exmB K x y (decide (x = y)))))
def loA : List Str := ["SayError", "BadSet", "Unlike", "TooGreat", "WIDEST", "is_from", "MOST_NUMBER", "MOST_PERIODS", "MOST_LINES", "is_vector", "is_line", "need_set", "line_of", "set_with", "MOST_STARRED", "added", "need_short", "need_two", "union", "sum_of", "choices_from", "star", "_law_mixed", "_law_begin", "_law_draw"]
def loB : List Str := ["_law_row", "_law_grid", "_law_fills", "_law_has", "_law_like", "_law_minus", "_law_lines", "_law_plus", "_law_clean", "_law_choices", "_law_star_lines", "_law_sums", "_law_star_rows", "_law_refusal", "_law_refusals_right", "_law_unions_right", "_law_great_right"]
def loose : List Str := loA ++ loB
abbrev RowL : PySem.W.OpenRow := PySem.W.OpenLaw.row PySem.Challenge.rw_wholesay_k25_whole_unions_sums_stars
def asW (g : Addr → Option Obj) (n : Nat) : List Addr := He.asD g n ++ [PySem.cStatics]
abbrev AlW : Type := He.AlD × Bool
def obsW (g : Addr → Option Obj) : AlW := (He.obsD fa fn (He.frG g (asW g 4)), ex (He.frG g (asW g 4)))
structure Says (K : PySem.W.Frag) : Prop where
  d : He.SaysD fa fn K
  e : ex K = true
def hk : PySem.W.Hook where
  α := AlW
  obs := fun s => obsW s.heap.get?
  val := fun _ => (He.valD fn, true)
  says := fun _ h => ∃ K : PySem.W.Frag, K.In h ∧ Says K
  of := fun _ s e => ⟨He.frG s.heap.get? (asW s.heap.get? 4), He.frG_in, congrArg Prod.fst e, congrArg Prod.snd e⟩
  keeps := fun _ _ _ ⟨K, hK, c⟩ k => ⟨K, PySem.W.Frag.In.keeps hK k, c⟩
def ob (s : PySem.W.SharedT) : AlW := obsW (HandSHeadRun.getT s)
theorem ob_eq (s : PySem.W.SharedT) : ob s = hk.obs s.abs := by
  have e : HandSHeadRun.getT s = s.abs.heap.get? := funext (HandSHeadRun.getT_eq s)
  show obsW _ = obsW _
  rw [e]
theorem run (w : World) : HandSHeadRun.RunEq RowL (PySem.W.view RowL.prog [47]) hk ob 4000 loose w := by
  intro os
  kernel_rfl
end Wh

set_option Elab.async false
set_option linter.all false
set_option maxRecDepth 100000
set_option maxHeartbeats 4000000
namespace Wh
open PySem PySem.Spec PyProof.Rows L2

/-! ### frozen data -/
/-- the dict of a comprehension, its entries as they stand -/
def dkO (a : Addr) (es : Array DictEntry) : HO := .ext fun h => ∃ o ep, h.get? a = some o ∧ o.ExactDict ∧ o.data = .dict es ep
def dkD (ds : List PyData) : PyData := .dict (ds.map fun d => (d, .bool true))
mutual
inductive At (G : Hp) : V → PyData → Prop
  | non : At G .non .none
  | bl (b : Bool) : At G (.bl b) (.bool b)
  | int (i : Int) : At G (.int i) (.int i)
  | str (x : Str) : At G (.str x) (.str x)
  | lst {a : Addr} {xs : List V} {ds : List PyData} : G a = some (.lst xs) → AtAll G xs ds → At G (.ref a) (.list ds)
  | tup {a : Addr} {xs : List V} {ds : List PyData} : G a = some (.tup xs) → AtAll G xs ds → At G (.ref a) (.tuple ds)
  | dic {a : Addr} {es : Array DictEntry} {ks : List Addr} {ds : List PyData} : G a = some (dkO a es) → es.toList.map (·.key) = ks.map Value.ref → (es.size ≤ sizeLine ∧ (a == sysModules) = false) → AtAll G (ks.map V.ref) ds → At G (.ref a) (.dict (ds.map fun d => (d, .bool true)))
inductive AtAll (G : Hp) : List V → List PyData → Prop
  | nil : AtAll G [] []
  | cons {v : V} {vs : List V} {d : PyData} {ds : List PyData} : At G v d → AtAll G vs ds → AtAll G (v :: vs) (d :: ds)
end

def Sub (G H : Hp) : Prop := ∀ a o, G a = some o → H a = some o
theorem Sub.refl (H : Hp) : Sub H H := fun _ _ e => e
theorem Sub.trans {A B C : Hp} (a : Sub A B) (b : Sub B C) : Sub A C := fun c o e => b c o (a c o e)

theorem At.dict_inv {G : Hp} {v : V} {kvs : List (PyData × PyData)} (h : At G v (.dict kvs)) : ∃ (a : Addr) (es : Array DictEntry) (ks : List Addr) (ds : List PyData), v = .ref a ∧ kvs = (ds.map fun d => (d, PyData.bool true)) ∧
    G a = some (dkO a es) ∧ es.toList.map (·.key) = ks.map Value.ref ∧ (es.size ≤ sizeLine ∧ (a == sysModules) = false) ∧ AtAll G (ks.map V.ref) ds := by
  cases h with
  | dic e q z r => exact ⟨_, _, _, _, rfl, rfl, e, q, z, r⟩
mutual
theorem At.mono {G G' : Hp} (k : Sub G G') : ∀ (d : PyData) (v : V), At G v d → At G' v d
  | .none, _, h => by cases h; exact .non
  | .bool _, _, h => by cases h; exact .bl _
  | .int _, _, h => by cases h; exact .int _
  | .str _, _, h => by cases h; exact .str _
  | .list ds, _, h => by
    cases h with
    | lst e r => exact .lst (k _ _ e) (AtAll.mono k ds _ r)
  | .tuple ds, _, h => by
    cases h with
    | tup e r => exact .tup (k _ _ e) (AtAll.mono k ds _ r)
  | .dict kvs, v, h => by
    obtain ⟨a, es, ks, ds, rfl, e0, e, q, z, r⟩ := At.dict_inv h
    have r' := AtAll.monoB k ds _ kvs e0 r
    rw [e0]
    exact .dic (k _ _ e) q z r'
theorem AtAll.mono {G G' : Hp} (k : Sub G G') : ∀ (ds : List PyData) (vs : List V), AtAll G vs ds → AtAll G' vs ds
  | [], _, h => by cases h; exact .nil
  | d :: ds, _, h => by
    cases h with
    | cons a r => exact .cons (At.mono k d _ a) (AtAll.mono k ds _ r)
theorem AtAll.monoB {G G' : Hp} (k : Sub G G') : ∀ (ds : List PyData) (vs : List V) (kvs : List (PyData × PyData)), kvs = (ds.map fun d => (d, PyData.bool true)) → AtAll G vs ds → AtAll G' vs ds
  | [], _, _, _, h => by cases h; exact .nil
  | d :: ds, _, [], e, _ => by cases e
  | d :: ds, _, (d', b) :: kvs, e, h => by
    have e1 : d' = d := congrArg (fun z => (z.head?.map Prod.fst).getD .none) e
    have e2 : kvs = ds.map fun d => (d, PyData.bool true) := congrArg List.tail e
    cases h with
    | cons a r => exact .cons (e1 ▸ At.mono k d' _ (e1 ▸ a)) (AtAll.monoB k ds _ kvs e2 r)
end

mutual
theorem At.dp {K : PySem.W.Frag} {G H : Hp} (k : Sub G H) : ∀ (d : PyData) (v : V), (∀ kvs, d ≠ .dict kvs) → PyData.hasDict d = false → At G v d → Dp K H v d
  | .none, _, _, _, h => by cases h; exact .non
  | .bool _, _, _, _, h => by cases h; exact .bl _
  | .int _, _, _, _, h => by cases h; exact .int _
  | .str _, _, _, _, h => by cases h; exact .str _
  | .list ds, _, _, n, h => by
    cases h with
    | lst e r => exact .lst (SqL.of (k _ _ e)) (AtAll.dp k ds _ (by simpa [PyData.hasDict] using n) r)
  | .tuple ds, _, _, n, h => by
    cases h with
    | tup e r => exact .tup (SqT.of (k _ _ e)) (AtAll.dp k ds _ (by simpa [PyData.hasDict] using n) r)
  | .dict kvs, _, n, _, _ => absurd rfl (n kvs)
theorem AtAll.dp {K : PySem.W.Frag} {G H : Hp} (k : Sub G H) : ∀ (ds : List PyData) (vs : List V), PyData.hasDictAll ds = false → AtAll G vs ds → DpAll K H vs ds
  | [], _, _, h => by cases h; exact .nil
  | d :: ds, _, n, h => by
    have n' : (d.hasDict || PyData.hasDictAll ds) = false := by simpa [PyData.hasDictAll] using n
    obtain ⟨n1, n2⟩ := Bool.or_eq_false_iff.mp n'
    cases h with
    | cons a r => exact .cons (At.dp k d _ (fun kvs e => by rw [e] at n1; simp [PyData.hasDict] at n1) n1 a) (AtAll.dp k ds _ n2 r)
end
theorem At.dp' {K : PySem.W.Frag} {G H : Hp} {d : PyData} {v : V} (k : Sub G H) (n : PyData.hasDict d = false) (h : At G v d) : Dp K H v d :=
  At.dp k d v (fun kvs e => by rw [e] at n; simp [PyData.hasDict] at n) n h

theorem AtAll.len {G : Hp} : ∀ {vs : List V} {ds : List PyData}, AtAll G vs ds → vs.length = ds.length
  | _, _, .nil => rfl
  | _, _, .cons _ r => congrArg (· + 1) r.len
theorem AtAll.get {G : Hp} : ∀ {vs : List V} {ds : List PyData} {i : Nat} {d : PyData}, AtAll G vs ds → ds[i]? = some d → ∃ v, vs[i]? = some v ∧ At G v d
  | _, _, _, _, .nil, e => by simp at e
  | _, _, 0, _, .cons h _, e => by simp at e; subst e; exact ⟨_, rfl, h⟩
  | _, _, i + 1, _, .cons _ r, e => by
    obtain ⟨v, h1, h2⟩ := AtAll.get (i := i) r (by simpa using e)
    exact ⟨v, by simpa using h1, h2⟩
theorem AtAll.get' {G : Hp} : ∀ {vs : List V} {ds : List PyData} {i : Nat} {v : V}, AtAll G vs ds → vs[i]? = some v → ∃ d, ds[i]? = some d ∧ At G v d
  | _, _, _, _, .nil, e => by simp at e
  | _, _, 0, _, .cons h _, e => by simp at e; subst e; exact ⟨_, rfl, h⟩
  | _, _, i + 1, _, .cons _ r, e => by
    obtain ⟨v, h1, h2⟩ := AtAll.get' (i := i) r (by simpa using e)
    exact ⟨v, by simpa using h1, h2⟩
theorem AtAll.append {G : Hp} : ∀ {vs ws : List V} {ds es : List PyData}, AtAll G vs ds → AtAll G ws es → AtAll G (vs ++ ws) (ds ++ es)
  | _, _, _, _, .nil, r => r
  | _, _, _, _, .cons h t, r => .cons h (t.append r)
theorem AtAll.take {G : Hp} : ∀ {vs : List V} {ds : List PyData} (n : Nat), AtAll G vs ds → AtAll G (vs.take n) (ds.take n)
  | _, _, 0, _ => .nil
  | _, _, _ + 1, .nil => .nil
  | _, _, n + 1, .cons h t => .cons h (t.take n)
theorem AtAll.drop {G : Hp} : ∀ {vs : List V} {ds : List PyData} (n : Nat), AtAll G vs ds → AtAll G (vs.drop n) (ds.drop n)
  | _, _, 0, r => r
  | _, _, _ + 1, .nil => .nil
  | _, _, n + 1, .cons _ t => AtAll.drop n t
theorem AtAll.ints {G : Hp} : ∀ {vs : List V} {ns : List Int}, AtAll G vs (ns.map .int) → vs = ns.map V.int
  | _, [], h => by
    have h' : AtAll G _ [] := h
    cases h'
    rfl
  | _, n :: ns, h => by
    have h' : AtAll G _ (PyData.int n :: ns.map .int) := h
    cases h' with
    | cons a r =>
      cases a
      rw [AtAll.ints r]
      rfl
theorem AtAll.of_ints {G : Hp} : ∀ ns : List Int, AtAll G (ns.map V.int) (ns.map .int)
  | [] => .nil
  | n :: ns => .cons (.int n) (AtAll.of_ints ns)
theorem AtAll.rep {G : Hp} {v : V} {d : PyData} (h : At G v d) : ∀ n : Nat, AtAll G (List.replicate n v) (List.replicate n d)
  | 0 => .nil
  | n + 1 => .cons h (AtAll.rep h n)

/-! ### the state of draws, results -/
inductive Cl where
  | bs | un | tg
  deriving DecidableEq
def fld : Cl → Str
  | .bs => "place"
  | .un => "value"
  | .tg => "most"
structure LS where
  cells : List Int
  lefts : List Int
  at_ : Int
inductive R (α : Type) where
  | ok (a : α) (w : LS)
  | er (c : Cl) (d : PyData) (w : LS)
  | no
def M (α : Type) := LS → R α
def M.pure {α : Type} (a : α) : M α := fun w => .ok a w
def M.bind {α β : Type} (m : M α) (f : α → M β) : M β := fun w => match m w with
  | .ok a w' => f a w'
  | .er c d w' => .er c d w'
  | .no => .no
instance : Monad M where
  pure := M.pure
  bind := M.bind
def M.no {α : Type} : M α := fun _ => .no
def M.raise {α : Type} (c : Cl) (d : PyData) : M α := fun w => .er c d w
/-- no error leaves -/
def M.calm {α : Type} (m : M α) : M α := fun w => match m w with
  | .ok a w' => .ok a w'
  | _ => .no
/-- what a slot holds: nothing known, frozen data, a list of the def's own that grows, the state of draws -/
inductive Sl where
  | un
  | fz (d : PyData)
  | ow (ds : List PyData)
  | st
abbrev Ev := List Sl
inductive Fl where
  | nx (ρ : Ev)
  | rt (d : PyData)

structure SA where
  d : Addr
  c : Addr
  l : Addr
def Mu (S : Option SA) (b : Addr) : Prop := match S with
  | none => False
  | some a => b = a.d ∨ b = a.l ∨ b = a.c
def StAt (S : Option SA) (G H : Hp) (w : LS) : Prop := match S with
  | none => True
  | some a => H a.d = some (.dK [(.inr "cells", .ref a.c), (.inr "lefts", .ref a.l), (.inr "at", .int w.at_)]) ∧ H a.c = some (.lst (w.cells.map V.int)) ∧ H a.l = some (.lst (w.lefts.map V.int)) ∧
    G a.d = none ∧ G a.c = none ∧ G a.l = none ∧ a.c ≠ a.l
structure Ext (S : Option SA) (G H G' H' : Hp) : Prop where
  sub : Sub G' H'
  gg : Sub G G'
  hh : ∀ a o, H a = some o → ¬ Mu S a → H' a = some o
  hs : ∀ a, H a ≠ none → H' a ≠ none
  nw : ∀ a, H a ≠ none → G' a = G a
theorem Ext.refl {S : Option SA} {G H : Hp} (k : Sub G H) : Ext S G H G H := ⟨k, Sub.refl G, fun _ _ e _ => e, fun _ e => e, fun _ _ => rfl⟩
theorem Ext.trans {S : Option SA} {G H G1 H1 G2 H2 : Hp} (a : Ext S G H G1 H1) (b : Ext S G1 H1 G2 H2) : Ext S G H G2 H2 :=
  ⟨b.sub, a.gg.trans b.gg, fun c o e n => b.hh c o (a.hh c o e n) n, fun c e => b.hs c (a.hs c e), fun c e => (b.nw c (a.hs c e)).trans (a.nw c e)⟩
theorem not_none {α : Type} {o : Option α} {x : α} (e : o = some x) : o ≠ none := fun z => by rw [e] at z; cases z
theorem Sub.new {G H : Hp} (k : Sub G H) {p : Addr} (hp : H p = none) : G p = none := by
  cases e : G p with
  | none => rfl
  | some o => rw [k p o e] at hp; cases hp
/-- a new object, frozen -/
theorem Ext.new {S : Option SA} {G H : Hp} (k : Sub G H) {p : Addr} (o : HO) (hp : H p = none) : Ext S G H (upd G p o) (upd H p o) where
  sub := fun a x e => by
    by_cases h : a = p
    · subst h; rw [upd_same] at e ⊢; exact e
    · rw [upd_ne h] at e ⊢; exact k a x e
  gg := fun a x e => by rw [upd_ne (ne_of_none e (k.new hp))]; exact e
  hh := fun a x e _ => by rw [upd_ne (ne_of_none e hp)]; exact e
  hs := fun a e => by
    by_cases h : a = p
    · subst h; exact absurd hp e
    · rw [upd_ne h]; exact e
  nw := fun a e => by
    by_cases h : a = p
    · subst h; exact absurd hp e
    · rw [upd_ne h]
/-- a new object, not frozen -/
theorem Ext.own {S : Option SA} {G H : Hp} (k : Sub G H) {p : Addr} (o : HO) (hp : H p = none) : Ext S G H G (upd H p o) where
  sub := fun a x e => by rw [upd_ne (ne_of_none e (k.new hp))]; exact k a x e
  gg := Sub.refl G
  hh := fun a x e _ => by rw [upd_ne (ne_of_none e hp)]; exact e
  hs := fun a e => by
    by_cases h : a = p
    · subst h; exact absurd hp e
    · rw [upd_ne h]; exact e
  nw := fun _ _ => rfl
theorem StAt.new {S : Option SA} {G H : Hp} {w : LS} (s : StAt S G H w) {p : Addr} (o : HO) (hp : H p = none) : StAt S (upd G p o) (upd H p o) w := by
  cases S with
  | none => exact True.intro
  | some a =>
    obtain ⟨h1, h2, h3, h4, h5, h6, h7⟩ := s
    have n1 := ne_of_none h1 hp
    have n2 := ne_of_none h2 hp
    have n3 := ne_of_none h3 hp
    exact ⟨by rw [upd_ne n1]; exact h1, by rw [upd_ne n2]; exact h2, by rw [upd_ne n3]; exact h3, by rw [upd_ne n1]; exact h4, by rw [upd_ne n2]; exact h5, by rw [upd_ne n3]; exact h6, h7⟩
theorem StAt.own {S : Option SA} {G H : Hp} {w : LS} (s : StAt S G H w) {p : Addr} (o : HO) (hp : H p = none) : StAt S G (upd H p o) w := by
  cases S with
  | none => exact True.intro
  | some a =>
    obtain ⟨h1, h2, h3, h4, h5, h6, h7⟩ := s
    have n1 := ne_of_none h1 hp
    have n2 := ne_of_none h2 hp
    have n3 := ne_of_none h3 hp
    exact ⟨by rw [upd_ne n1]; exact h1, by rw [upd_ne n2]; exact h2, by rw [upd_ne n3]; exact h3, h4, h5, h6, h7⟩
theorem StAt.mu {S : Option SA} {G H : Hp} {w : LS} (s : StAt S G H w) {p : Addr} (hp : H p = none) : ¬ Mu S p := by
  cases S with
  | none => exact fun z => z
  | some a =>
    obtain ⟨h1, h2, h3, _⟩ := s
    intro z
    rcases z with z | z | z
    · rw [z, h1] at hp; cases hp
    · rw [z, h3] at hp; cases hp
    · rw [z, h2] at hp; cases hp

def SlAt (S : Option SA) (G H : Hp) : Sl → Option V → Prop
  | .un, _ => True
  | .fz d, o => ∃ v, o = some v ∧ At G v d
  | .ow ds, o => ∃ l xs, o = some (.ref l) ∧ H l = some (.lst xs) ∧ G l = none ∧ AtAll G xs ds ∧ ¬ Mu S l
  | .st, o => ∃ a, S = some a ∧ o = some (.ref a.d)
theorem SlAt.ext {S : Option SA} {G H G' H' : Hp} (x : Ext S G H G' H') : ∀ {s : Sl} {o : Option V}, SlAt S G H s o → SlAt S G' H' s o
  | .un, _, _ => True.intro
  | .fz d, _, ⟨v, e, h⟩ => ⟨v, e, At.mono x.gg d v h⟩
  | .ow ds, _, ⟨l, xs, e, h1, h2, h3, h4⟩ => ⟨l, xs, e, x.hh l _ h1 h4, by rw [x.nw l (not_none h1)]; exact h2, AtAll.mono x.gg ds xs h3, h4⟩
  | .st, _, h => h
structure Ent (S : Option SA) (ρ : Ev) (w : LS) (σ : L2.St) (G H : Hp) : Prop where
  sub : Sub G H
  len : ρ.length = σ.length
  sl : ∀ (i : Nat) (s : Sl), ρ[i]? = some s → ∃ o, σ[i]? = some o ∧ SlAt S G H s o
  ap : ∀ (i j : Nat) (x y : List PyData) (l : Addr), ρ[i]? = some (.ow x) → ρ[j]? = some (.ow y) → σ[i]? = some (some (.ref l)) → σ[j]? = some (some (.ref l)) → i = j
  st : StAt S G H w
theorem Ent.ext {S : Option SA} {ρ : Ev} {w w' : LS} {σ : L2.St} {G H G' H' : Hp} (e : Ent S ρ w σ G H) (x : Ext S G H G' H') (s : StAt S G' H' w') : Ent S ρ w' σ G' H' :=
  ⟨x.sub, e.len, fun i s h => let ⟨o, h1, h2⟩ := e.sl i s h; ⟨o, h1, h2.ext x⟩, e.ap, s⟩
/-- relative to the def's entry -/
structure Bas (S : Option SA) (G0 H0 : Hp) (ρ : Ev) (σ : L2.St) (G H : Hp) : Prop where
  ext : Ext S G0 H0 G H
  own : ∀ (i : Nat) (x : List PyData) (l : Addr), ρ[i]? = some (.ow x) → σ[i]? = some (some (.ref l)) → H0 l = none
theorem Bas.next {S : Option SA} {G0 H0 : Hp} {ρ : Ev} {σ : L2.St} {G H G' H' : Hp} (b : Bas S G0 H0 ρ σ G H) (x : Ext S G H G' H') : Bas S G0 H0 ρ σ G' H' := ⟨b.ext.trans x, b.own⟩

/-! ### what is wanted -/
def ErW (κ : Cl → Addr) (S : Option SA) (G H : Hp) (E : XK) (c : Cl) (d : PyData) (w : LS) : Prop :=
  ∀ v x G' H', Ext S G H G' H' → StAt S G' H' w → At G' v d → H' x = some (.xd [(fld c, v)]) → G' x = none → E (.ref (κ c)) (some x) H'
theorem ErW.mono {κ : Cl → Addr} {S : Option SA} {G H G1 H1 : Hp} {E : XK} {c : Cl} {d : PyData} {w : LS} (h : ErW κ S G H E c d w) (x : Ext S G H G1 H1) : ErW κ S G1 H1 E c d w :=
  fun v y G' H' z => h v y G' H' (x.trans z)
def PostW {α : Type} (κ : Cl → Addr) (S : Option SA) (G H : Hp) (E : XK) (r : R α) (k : α → LS → Hp → Hp → Prop) : Prop := match r with
  | .ok a w' => ∀ G' H', Ext S G H G' H' → StAt S G' H' w' → k a w' G' H'
  | .er c d w' => ErW κ S G H E c d w'
  | .no => False
theorem PostW.mono {α : Type} {κ : Cl → Addr} {S : Option SA} {G H G1 H1 : Hp} {E : XK} {r : R α} {k : α → LS → Hp → Hp → Prop} (h : PostW κ S G H E r k) (x : Ext S G H G1 H1) : PostW κ S G1 H1 E r k := by
  cases r with
  | ok a w' => exact fun G' H' z s => h G' H' (x.trans z) s
  | er c d w' => exact ErW.mono h x
  | no => exact h
theorem PostW.bind {α β : Type} {κ : Cl → Addr} {S : Option SA} {G H : Hp} {E : XK} {m : M α} {f : α → M β} {w : LS} {k : β → LS → Hp → Hp → Prop} (h : PostW κ S G H E ((m >>= f) w) k) :
    PostW κ S G H E (m w) (fun a w' G' H' => PostW κ S G' H' E (f a w') k) := by
  have h' : PostW κ S G H E (M.bind m f w) k := h
  unfold M.bind at h'
  cases e : m w with
  | ok a w' =>
    rw [e] at h'
    exact fun G' H' x _ => PostW.mono h' x
  | er c d w' =>
    rw [e] at h'
    exact h'
  | no =>
    rw [e] at h'
    exact h'
theorem PostW.imp {α : Type} {κ : Cl → Addr} {S : Option SA} {G H : Hp} {E : XK} {r : R α} {k k' : α → LS → Hp → Hp → Prop} (h : PostW κ S G H E r k) (i : ∀ a w' G' H', Ext S G H G' H' → StAt S G' H' w' → k a w' G' H' → k' a w' G' H') : PostW κ S G H E r k' := by
  cases r with
  | ok a w' => exact fun G' H' x s => i a w' G' H' x s (h G' H' x s)
  | er c d w' => exact h
  | no => exact h
theorem PostW.calm {α : Type} {κ : Cl → Addr} {S : Option SA} {G H : Hp} {E E' : XK} {m : M α} {w : LS} {k : α → LS → Hp → Hp → Prop} (h : PostW κ S G H E (m.calm w) k) : PostW κ S G H E' (m w) k := by
  unfold M.calm at h
  cases e : m w with
  | ok a w' =>
    rw [e] at h
    exact h
  | er c d w' =>
    rw [e] at h
    exact h.elim
  | no =>
    rw [e] at h
    exact h.elim

abbrev kV (Q : VK) : PyData → LS → Hp → Hp → Prop := fun d _ G' H' => ∀ v, At G' v d → Q v H'
abbrev kB (Q : Bool → Hp → Prop) : Bool → LS → Hp → Hp → Prop := fun b _ _ H' => Q b H'
def RdE (κ : Cl → Addr) (E : XK) (t : TE) (f : Ev → M PyData) : Prop := ∀ S G H ρ w σ Q, Ent S ρ w σ G H → PostW κ S G H E (f ρ w) (kV Q) → t σ H Q
def RdT (κ : Cl → Addr) (E : XK) (t : TT) (f : Ev → M Bool) : Prop := ∀ S G H ρ w σ Q, Ent S ρ w σ G H → PostW κ S G H E (f ρ w) (kB Q) → t σ H Q
/-- arguments: values and the state's token -/
inductive ArgsAt (S : Option SA) (G : Hp) : List V → List Sl → Prop
  | nil : ArgsAt S G [] []
  | fz {v : V} {vs : List V} {d : PyData} {as : List Sl} : At G v d → ArgsAt S G vs as → ArgsAt S G (v :: vs) (.fz d :: as)
  | st {a : SA} {vs : List V} {as : List Sl} : S = some a → ArgsAt S G vs as → ArgsAt S G (.ref a.d :: vs) (.st :: as)
def RdA (κ : Cl → Addr) (E : XK) (t : TA) (f : Ev → M (List Sl)) : Prop := ∀ S G H ρ w σ Q, Ent S ρ w σ G H → PostW κ S G H E (f ρ w) (fun as _ G' H' => ∀ vs, ArgsAt S G' vs as → Q vs H') → t σ H Q
/-- plain values -/
def RdL (κ : Cl → Addr) (E : XK) (t : TA) (f : Ev → M (List PyData)) : Prop := ∀ S G H ρ w σ Q, Ent S ρ w σ G H → PostW κ S G H E (f ρ w) (fun ds _ G' H' => ∀ vs, AtAll G' vs ds → Q vs H') → t σ H Q
def SPost (κ : Cl → Addr) (S : Option SA) (G0 H0 : Hp) (E : XK) (D : Ends) (r : R Fl) : Prop := match r with
  | .ok (.nx ρ') w' => ∀ σ' G' H', Ent S ρ' w' σ' G' H' → Bas S G0 H0 ρ' σ' G' H' → D.nx σ' H'
  | .ok (.rt d) w' => ∀ v G' H', Ext S G0 H0 G' H' → StAt S G' H' w' → At G' v d → D.rt v H'
  | .er c d w' => ErW κ S G0 H0 E c d w'
  | .no => False
def RdS (κ : Cl → Addr) (E : XK) (t : TS) (m : Ev → M Fl) : Prop := ∀ S G0 H0 G H ρ w σ D, Ent S ρ w σ G H → Bas S G0 H0 ρ σ G H → SPost κ S G0 H0 E D (m ρ w) → t D σ H

structure DE (X : Cx) (κ : Cl → Addr) (E : XK) (e : Expr) (t : TE) (f : Ev → M PyData) : Prop where
  p : PE X e t
  r : RdE κ E t f
structure DT (X : Cx) (κ : Cl → Addr) (E : XK) (e : Expr) (t : TT) (f : Ev → M Bool) : Prop where
  p : PT X e t
  r : RdT κ E t f
structure DA (X : Cx) (κ : Cl → Addr) (E : XK) (es : List Expr) (t : TA) (f : Ev → M (List Sl)) : Prop where
  p : PA X es t
  r : RdA κ E t f
structure DL (X : Cx) (κ : Cl → Addr) (E : XK) (es : List Expr) (t : TA) (f : Ev → M (List PyData)) : Prop where
  p : PA X es t
  r : RdL κ E t f
structure DS (X : Cx) (κ : Cl → Addr) (E : XK) (s : Stmt) (t : TS) (m : Ev → M Fl) : Prop where
  p : PS X s t
  r : RdS κ E t m
structure DSs (X : Cx) (κ : Cl → Addr) (E : XK) (s : List Stmt) (t : TS) (m : Ev → M Fl) : Prop where
  p : PSs X s t
  r : RdS κ E t m
end Wh

namespace Wh
open PySem PySem.Spec PyProof.Rows L2

/-! ### from a value to what is wanted -/
section
variable {κ : Cl → Addr} {S : Option SA} {G H : Hp} {E : XK} {w : LS}
theorem post_pure {α : Type} {a : α} {k : α → LS → Hp → Hp → Prop} (h : PostW κ S G H E ((Pure.pure a : M α) w) k) (x : Sub G H) (s : StAt S G H w) : k a w G H := h G H (Ext.refl x) s
theorem post_new {α : Type} {a : α} {k : α → LS → Hp → Hp → Prop} (h : PostW κ S G H E ((Pure.pure a : M α) w) k) (x : Sub G H) (s : StAt S G H w) {p : Addr} (o : HO) (hp : H p = none) : k a w (upd G p o) (upd H p o) :=
  h _ _ (Ext.new x o hp) (s.new o hp)
theorem At.tupN {p : Addr} {xs : List V} {ds : List PyData} (x : Sub G H) (hp : H p = none) (h : AtAll G xs ds) : At (upd G p (.tup xs)) (.ref p) (.tuple ds) :=
  .tup upd_same (AtAll.mono (Ext.new (S := none) x _ hp).gg ds xs h)
theorem At.lstN {p : Addr} {xs : List V} {ds : List PyData} (x : Sub G H) (hp : H p = none) (h : AtAll G xs ds) : At (upd G p (.lst xs)) (.ref p) (.list ds) :=
  .lst upd_same (AtAll.mono (Ext.new (S := none) x _ hp).gg ds xs h)
end

/-! ### expressions -/
def varM (i : Nat) (ρ : Ev) : M PyData := match ρ[i]? with
  | some (.fz d) => pure d
  | _ => M.no
def boolM : PyData → M Bool
  | .bool b => pure b
  | _ => M.no
section
variable {X : Cx} {κ : Cl → Addr} {E : XK} {pos : Pos}
theorem rd_var (i : Nat) : RdE κ E (tVar i) (varM i) := by
  intro S G H ρ w σ Q env h
  unfold varM at h
  cases e : ρ[i]? with
  | none => rw [e] at h; exact h.elim
  | some s =>
    rw [e] at h
    cases s with
    | fz d =>
      obtain ⟨o, e1, v, e2, a⟩ := env.sl i _ e
      subst e2
      exact ⟨v, e1, post_pure h env.sub env.st v a⟩
    | un => exact h.elim
    | ow ds => exact h.elim
    | st => exact h.elim
theorem rd_const {v : V} {d : PyData} (c : ∀ G, At G v d) : RdE κ E (tC v) (fun _ => pure d) := by
  intro S G H ρ w σ Q env h
  exact post_pure h env.sub env.st v (c G)
theorem de_int {i j} : DE X κ E (.Constant (.int i) j pos) (tC (.int i)) (fun _ => pure (.int i)) := ⟨pe_int, rd_const fun _ => .int i⟩
theorem de_bl {b j} : DE X κ E (.Constant (.bool b) j pos) (tC (.bl b)) (fun _ => pure (.bool b)) := ⟨pe_bl, rd_const fun _ => .bl b⟩
theorem de_non {j} : DE X κ E (.Constant .none j pos) (tC .non) (fun _ => pure .none) := ⟨pe_non, rd_const fun _ => .non⟩
theorem de_str {x j} : DE X κ E (.Constant (.str x) j pos) (tC (.str x)) (fun _ => pure (.str x)) := ⟨pe_str, rd_const fun _ => .str x⟩
theorem de_var (i : Nat) {x : Str} (hN : X.N[i]? = some x := by rfl) (hv : Vis X.env.scope x := by first | exact Or.inl rfl | exact Or.inr (Or.inl rfl) | exact Or.inr (Or.inr rfl)) (hd : (x == ("__debug__" : Str)) = false := by decide)
    (hcd : (x == ("__classdict__" : Str)) = false := by decide) : DE X κ E (.Name x pos) (tVar i) (varM i) := ⟨pe_var hN hv hd hcd, rd_var i⟩
/-- a module's int -/
theorem de_glob {x : Str} {i : Int} {t : Tok} (hg : Gl X x) (hm : X.mg x = some (.int i t)) (hd : (x == ("__debug__" : Str)) = false := by decide) : DE X κ E (.Name x pos) (tC (.int i)) (fun _ => pure (.int i)) :=
  ⟨pe_glob hg hm ⟨t, rfl⟩ hd, rd_const fun _ => .int i⟩

/-! ### operators -/
def RdOp (κ : Cl → Addr) (E : XK) (r : R2) (g : PyData → PyData → M PyData) : Prop :=
  ∀ S G H w x y d e Q, Sub G H → StAt S G H w → At G x d → At G y e → PostW κ S G H E (g d e w) (kV Q) → r x y H Q
variable {a b c : Expr} {ta tb tc : TE} {fa fb fc : Ev → M PyData} {r r' : R2} {g g' : PyData → PyData → M PyData}
def opM (g : PyData → PyData → M PyData) (fa fb : Ev → M PyData) (ρ : Ev) : M PyData := do
  let x ← fa ρ
  let y ← fb ρ
  g x y
theorem rd_op (hr : RdOp κ E r g) (ra : RdE κ E ta fa) (rb : RdE κ E tb fb) : RdE κ E (tOp r ta tb) (opM g fa fb) := by
  intro S G H ρ w σ Q env h
  refine ra S G H ρ w σ _ env (h.bind.imp fun d w1 G1 H1 x1 s1 h1 v av => ?_)
  refine rb S G1 H1 ρ w1 σ _ (env.ext x1 s1) (h1.bind.imp fun e w2 G2 H2 x2 s2 h2 u au => ?_)
  exact hr S G2 H2 w2 v u d e Q x2.sub s2 (At.mono x2.gg d v av) au h2
theorem de_op {op : Operator} (ho : OpR X (binaryOp op) r) (hr : RdOp κ E r g) (ha : DE X κ E a ta fa) (hb : DE X κ E b tb fb) : DE X κ E (.BinOp a op b pos) (tOp r ta tb) (opM g fa fb) :=
  ⟨pe_op ho ha.p hb.p, rd_op hr ha.r hb.r⟩
theorem de_cmp {op : CmpOp} (ho : OpR X (compareOp op) r) (hr : RdOp κ E r g) (ha : DE X κ E a ta fa) (hb : DE X κ E b tb fb) (hm : behindInMarks op b = false) : DE X κ E (.Compare a [op] [b] pos) (tOp r ta tb) (opM g fa fb) :=
  ⟨pe_cmpR ho ha.p hb.p hm, rd_op hr ha.r hb.r⟩
def testM (f : Ev → M PyData) (ρ : Ev) : M Bool := do
  let x ← f ρ
  boolM x
theorem rd_tB {t : TE} {f : Ev → M PyData} (h : RdE κ E t f) : RdT κ E (tB t) (testM f) := by
  intro S G H ρ w σ Q env p
  refine h S G H ρ w σ _ env (p.bind.imp fun d w1 G1 H1 x1 s1 h1 v av => ?_)
  cases d with
  | bool k =>
    cases av
    exact ⟨k, rfl, post_pure h1 x1.sub s1⟩
  | _ => exact h1.elim
theorem dt_val {e : Expr} {t : TE} {f : Ev → M PyData} (h : DE X κ E e t f) (he : ∀ whole, isTrue e X.env whole = (do let v ← whole; standAt e.pos; holding [v] (truthy v)) := by intro _; rfl) : DT X κ E e (tB t) (testM f) :=
  ⟨pt_val h.p he, rd_tB h.r⟩
theorem dt_cmp {op : CmpOp} (ho : OpR X (compareOp op) r) (hr : RdOp κ E r g) (ha : DE X κ E a ta fa) (hb : DE X κ E b tb fb) (hm : behindInMarks op b = false) : DT X κ E (.Compare a [op] [b] pos) (tTest (tOp r ta tb)) (testM (opM g fa fb)) :=
  ⟨pt_cmpR ho ha.p hb.p hm, rd_tB (rd_op hr ha.r hb.r)⟩
/-- a <= b <= c -/
def chainM (g g' : PyData → PyData → M PyData) (fa fb fc : Ev → M PyData) (ρ : Ev) : M PyData := do
  let x ← fa ρ
  let y ← fb ρ
  let z ← g x y
  let k ← boolM z
  if k = true then (do let v ← fc ρ; g' y v) else pure (.bool false)
theorem rd_chain (hr : RdOp κ E r g) (hr' : RdOp κ E r' g') (ra : RdE κ E ta fa) (rb : RdE κ E tb fb) (rc : RdE κ E tc fc) : RdE κ E (tChain r r' ta tb tc) (chainM g g' fa fb fc) := by
  intro S G H ρ w σ Q env h
  refine ra S G H ρ w σ _ env (h.bind.imp fun d w1 G1 H1 x1 s1 h1 v av => ?_)
  refine rb S G1 H1 ρ w1 σ _ (env.ext x1 s1) (h1.bind.imp fun e w2 G2 H2 x2 s2 h2 u au => ?_)
  refine hr S G2 H2 w2 v u d e _ x2.sub s2 (At.mono x2.gg d v av) au (h2.bind.imp fun z w3 G3 H3 x3 s3 h3 q aq => ?_)
  cases z with
  | bool k =>
    cases aq
    refine ⟨k, rfl, ?_⟩
    have h4 := h3.bind G3 H3 (Ext.refl x3.sub) s3
    cases k with
    | false => exact post_pure h4 x3.sub s3 _ (.bl false)
    | true =>
      refine rc S G3 H3 ρ w3 σ _ (((env.ext x1 s1).ext x2 s2).ext x3 s3) (PostW.bind (m := fc ρ) h4 |>.imp fun t w4 G4 H4 x4 s4 h5 p ap => ?_)
      exact hr' S G4 H4 w4 u p e t Q x4.sub s4 (At.mono (x3.gg.trans x4.gg) e u au) ap h5
  | _ => exact h3.bind.elim
theorem de_chain {op op' : CmpOp} (ho : OpR X (compareOp op) r) (ho' : OpR X (compareOp op') r') (hr : RdOp κ E r g) (hr' : RdOp κ E r' g') (ha : DE X κ E a ta fa) (hb : DE X κ E b tb fb) (hc : DE X κ E c tc fc)
    (p : PE X a ta → PE X b tb → PE X c tc → PE X (.Compare a [op, op'] [b, c] pos) (tChain r r' ta tb tc)) : DE X κ E (.Compare a [op, op'] [b, c] pos) (tChain r r' ta tb tc) (chainM g g' fa fb fc) :=
  ⟨p ha.p hb.p hc.p, rd_chain hr hr' ha.r hb.r hc.r⟩

/-! ### and, or, not, if -/
variable {tA tB' : TT} {gA gB : Ev → M Bool} {rest : List Expr}
structure DW (X : Cx) (κ : Cl → Addr) (E : XK) (e : Expr) (t : TT) (f : Ev → M Bool) : Prop where
  p : PW X e t
  r : RdT κ E t f
theorem DW.t {e : Expr} {t : TT} {f : Ev → M Bool} (h : DW X κ E e t f) : DT X κ E e t f := ⟨h.p.pt, h.r⟩
def andM (f g : Ev → M Bool) (ρ : Ev) : M Bool := do
  let k ← f ρ
  if k = true then g ρ else pure false
def orM (f g : Ev → M Bool) (ρ : Ev) : M Bool := do
  let k ← f ρ
  if k = true then pure true else g ρ
def notM (f : Ev → M Bool) (ρ : Ev) : M Bool := do
  let k ← f ρ
  pure (!k)
theorem rd_and (ha : RdT κ E tA gA) (hb : RdT κ E tB' gB) : RdT κ E (tAnd tA tB') (andM gA gB) := by
  intro S G H ρ w σ Q env h
  refine ha S G H ρ w σ _ env (h.bind.imp fun k w1 G1 H1 x1 s1 h1 => ?_)
  cases k with
  | true => exact iteT (hb S G1 H1 ρ w1 σ Q (env.ext x1 s1) h1)
  | false => exact iteF (post_pure h1 x1.sub s1)
theorem rd_or (ha : RdT κ E tA gA) (hb : RdT κ E tB' gB) : RdT κ E (tOr tA tB') (orM gA gB) := by
  intro S G H ρ w σ Q env h
  refine ha S G H ρ w σ _ env (h.bind.imp fun k w1 G1 H1 x1 s1 h1 => ?_)
  cases k with
  | true => exact iteT (post_pure h1 x1.sub s1)
  | false => exact iteF (hb S G1 H1 ρ w1 σ Q (env.ext x1 s1) h1)
theorem rd_not (ha : RdT κ E tA gA) : RdT κ E (tNot tA) (notM gA) := by
  intro S G H ρ w σ Q env h
  refine ha S G H ρ w σ _ env (h.bind.imp fun k w1 G1 H1 x1 s1 h1 => ?_)
  exact post_pure (a := !k) (k := kB Q) h1 x1.sub s1
theorem dw_and1 (ha : DT X κ E a tA gA) : DW X κ E (.BoolOp .And [a] pos) tA gA := ⟨pw_and1 ha.p, ha.r⟩
theorem dw_or1 (ha : DT X κ E a tA gA) : DW X κ E (.BoolOp .Or [a] pos) tA gA := ⟨pw_or1 ha.p, ha.r⟩
theorem dw_and (ha : DT X κ E a tA gA) (hb : DW X κ E (.BoolOp .And (b :: rest) pos) tB' gB) : DW X κ E (.BoolOp .And (a :: b :: rest) pos) (tAnd tA tB') (andM gA gB) := ⟨pw_and ha.p hb.p, rd_and ha.r hb.r⟩
theorem dw_or (ha : DT X κ E a tA gA) (hb : DW X κ E (.BoolOp .Or (b :: rest) pos) tB' gB) : DW X κ E (.BoolOp .Or (a :: b :: rest) pos) (tOr tA tB') (orM gA gB) := ⟨pw_or ha.p hb.p, rd_or ha.r hb.r⟩
theorem dt_not (ha : DT X κ E a tA gA) : DT X κ E (.UnaryOp .Not a pos) (tNot tA) (notM gA) := ⟨pt_not ha.p, rd_not ha.r⟩
def andV (f g : Ev → M PyData) (ρ : Ev) : M PyData := do
  let x ← f ρ
  let k ← boolM x
  if k = true then g ρ else pure (.bool false)
def orV (f g : Ev → M PyData) (ρ : Ev) : M PyData := do
  let x ← f ρ
  let k ← boolM x
  if k = true then pure (.bool true) else g ρ
def notV (f : Ev → M PyData) (ρ : Ev) : M PyData := do
  let x ← f ρ
  let k ← boolM x
  pure (.bool (!k))
theorem rd_andV (ha : RdE κ E ta fa) (hb : RdE κ E tb fb) : RdE κ E (tAndV ta tb) (andV fa fb) := by
  intro S G H ρ w σ Q env h
  refine ha S G H ρ w σ _ env (h.bind.imp fun d w1 G1 H1 x1 s1 h1 v av => ?_)
  cases d with
  | bool k =>
    cases av
    refine ⟨k, rfl, ?_⟩
    have h4 := h1.bind G1 H1 (Ext.refl x1.sub) s1
    cases k with
    | true => exact iteT (hb S G1 H1 ρ w1 σ Q (env.ext x1 s1) h4)
    | false => exact iteF (post_pure h4 x1.sub s1 _ (.bl false))
  | _ => exact h1.bind.elim
theorem rd_orV (ha : RdE κ E ta fa) (hb : RdE κ E tb fb) : RdE κ E (tOrV ta tb) (orV fa fb) := by
  intro S G H ρ w σ Q env h
  refine ha S G H ρ w σ _ env (h.bind.imp fun d w1 G1 H1 x1 s1 h1 v av => ?_)
  cases d with
  | bool k =>
    cases av
    refine ⟨k, rfl, ?_⟩
    have h4 := h1.bind G1 H1 (Ext.refl x1.sub) s1
    cases k with
    | true => exact iteT (post_pure h4 x1.sub s1 _ (.bl true))
    | false => exact iteF (hb S G1 H1 ρ w1 σ Q (env.ext x1 s1) h4)
  | _ => exact h1.bind.elim
theorem rd_notV (ha : RdE κ E ta fa) : RdE κ E (tNotV ta) (notV fa) := by
  intro S G H ρ w σ Q env h
  refine ha S G H ρ w σ _ env (h.bind.imp fun d w1 G1 H1 x1 s1 h1 v av => ?_)
  cases d with
  | bool k =>
    cases av
    exact ⟨k, rfl, post_pure (h1.bind G1 H1 (Ext.refl x1.sub) s1) x1.sub s1 _ (.bl _)⟩
  | _ => exact h1.bind.elim
theorem de_one {op} (h : DE X κ E a ta fa) : DE X κ E (.BoolOp op [a] pos) ta fa := ⟨pe_one h.p, h.r⟩
theorem de_and (ha : DE X κ E a ta fa) (hb : DE X κ E (.BoolOp .And (b :: rest) pos) tb fb) : DE X κ E (.BoolOp .And (a :: b :: rest) pos) (tAndV ta tb) (andV fa fb) := ⟨pe_and ha.p hb.p, rd_andV ha.r hb.r⟩
theorem de_or (ha : DE X κ E a ta fa) (hb : DE X κ E (.BoolOp .Or (b :: rest) pos) tb fb) : DE X κ E (.BoolOp .Or (a :: b :: rest) pos) (tOrV ta tb) (orV fa fb) := ⟨pe_or ha.p hb.p, rd_orV ha.r hb.r⟩
theorem de_not (ha : DE X κ E a ta fa) : DE X κ E (.UnaryOp .Not a pos) (tNotV ta) (notV fa) := ⟨pe_not ha.p, rd_notV ha.r⟩
def ifV (g : Ev → M Bool) (fa fb : Ev → M PyData) (ρ : Ev) : M PyData := do
  let k ← g ρ
  if k = true then fa ρ else fb ρ
theorem rd_ifE (hc : RdT κ E tA gA) (ha : RdE κ E ta fa) (hb : RdE κ E tb fb) : RdE κ E (tIf tA ta tb) (ifV gA fa fb) := by
  intro S G H ρ w σ Q env h
  refine hc S G H ρ w σ _ env (h.bind.imp fun k w1 G1 H1 x1 s1 h1 => ?_)
  cases k with
  | true => exact iteT (ha S G1 H1 ρ w1 σ Q (env.ext x1 s1) h1)
  | false => exact iteF (hb S G1 H1 ρ w1 σ Q (env.ext x1 s1) h1)
theorem de_if (hc : DT X κ E c tA gA) (ha : DE X κ E a ta fa) (hb : DE X κ E b tb fb) : DE X κ E (.IfExp c a b pos) (tIf tA ta tb) (ifV gA fa fb) := ⟨pe_ifExp hc.p ha.p hb.p, rd_ifE hc.r ha.r hb.r⟩

/-! ### argument lists, displays -/
variable {e : Expr} {es : List Expr} {te : TE} {t : TA} {f : Ev → M PyData} {fs : Ev → M (List PyData)} {fA : Ev → M (List Sl)}
def lNil (_ : Ev) : M (List PyData) := pure []
def lCons (f : Ev → M PyData) (fs : Ev → M (List PyData)) (ρ : Ev) : M (List PyData) := do
  let d ← f ρ
  let ds ← fs ρ
  pure (d :: ds)
theorem dl_nil : DL X κ E [] tNil lNil := ⟨pa_nil, fun S G H ρ w σ Q env h => post_pure h env.sub env.st [] .nil⟩
theorem dl_cons (he : DE X κ E e te f) (hs : DL X κ E es t fs) (h : starEach (e :: es) X.env = (false, eval e X.env) :: starEach es X.env := by rfl) : DL X κ E (e :: es) (tCons te t) (lCons f fs) := by
  refine ⟨pa_cons he.p hs.p h, fun S G H ρ w σ Q env p => ?_⟩
  refine he.r S G H ρ w σ _ env (p.bind.imp fun d w1 G1 H1 x1 s1 h1 v av => ?_)
  refine hs.r S G1 H1 ρ w1 σ _ (env.ext x1 s1) (h1.bind.imp fun ds w2 G2 H2 x2 s2 h2 vs avs => ?_)
  exact post_pure h2 x2.sub s2 (v :: vs) (.cons (At.mono x2.gg d v av) avs)
def aNil (_ : Ev) : M (List Sl) := pure []
def aCons (f : Ev → M PyData) (fs : Ev → M (List Sl)) (ρ : Ev) : M (List Sl) := do
  let d ← f ρ
  let ds ← fs ρ
  pure (.fz d :: ds)
def aSt (i : Nat) (fs : Ev → M (List Sl)) (ρ : Ev) : M (List Sl) := match ρ[i]? with
  | some .st => do
    let ds ← fs ρ
    pure (.st :: ds)
  | _ => M.no
theorem ArgsAt.mono {S : Option SA} {G G' : Hp} (k : Sub G G') : ∀ {vs : List V} {as : List Sl}, ArgsAt S G vs as → ArgsAt S G' vs as
  | _, _, .nil => .nil
  | _, _, .fz h r => .fz (At.mono k _ _ h) (r.mono k)
  | _, _, .st h r => .st h (r.mono k)
theorem da_nil : DA X κ E [] tNil aNil := ⟨pa_nil, fun S G H ρ w σ Q env h => post_pure h env.sub env.st [] .nil⟩
theorem da_cons (he : DE X κ E e te f) (hs : DA X κ E es t fA) (h : starEach (e :: es) X.env = (false, eval e X.env) :: starEach es X.env := by rfl) : DA X κ E (e :: es) (tCons te t) (aCons f fA) := by
  refine ⟨pa_cons he.p hs.p h, fun S G H ρ w σ Q env p => ?_⟩
  refine he.r S G H ρ w σ _ env (p.bind.imp fun d w1 G1 H1 x1 s1 h1 v av => ?_)
  refine hs.r S G1 H1 ρ w1 σ _ (env.ext x1 s1) (h1.bind.imp fun ds w2 G2 H2 x2 s2 h2 vs avs => ?_)
  exact post_pure h2 x2.sub s2 (v :: vs) (.fz (At.mono x2.gg d v av) avs)
/-- the token of the state in slot i -/
theorem da_st (i : Nat) {x : Str} (hs : DA X κ E es t fA) (hN : X.N[i]? = some x := by rfl) (hv : Vis X.env.scope x := by first | exact Or.inl rfl | exact Or.inr (Or.inl rfl) | exact Or.inr (Or.inr rfl)) (hd : (x == ("__debug__" : Str)) = false := by decide)
    (hcd : (x == ("__classdict__" : Str)) = false := by decide) (h : starEach (.Name x pos :: es) X.env = (false, eval (.Name x pos) X.env) :: starEach es X.env := by rfl) : DA X κ E (.Name x pos :: es) (tCons (tVar i) t) (aSt i fA) := by
  refine ⟨pa_cons (pe_var hN hv hd hcd) hs.p h, fun S G H ρ w σ Q env p => ?_⟩
  unfold aSt at p
  cases q : ρ[i]? with
  | none => rw [q] at p; exact p.elim
  | some s =>
    rw [q] at p
    cases s with
    | st =>
      obtain ⟨o, e1, a, hS, e2⟩ := env.sl i _ q
      subst e2
      refine ⟨_, e1, ?_⟩
      refine hs.r S G H ρ w σ _ env (p.bind.imp fun ds w2 G2 H2 x2 s2 h2 vs avs => ?_)
      exact post_pure h2 x2.sub s2 _ (.st hS avs)
    | un => exact p.elim
    | ow ds => exact p.elim
    | fz d => exact p.elim
def tupM (fs : Ev → M (List PyData)) (ρ : Ev) : M PyData := do
  let ds ← fs ρ
  if ds.length ≤ sizeLine then pure (.tuple ds) else M.no
def lstM (fs : Ev → M (List PyData)) (ρ : Ev) : M PyData := do
  let ds ← fs ρ
  if ds.length ≤ sizeLine then pure (.list ds) else M.no
theorem post_if {α : Type} {κ : Cl → Addr} {S : Option SA} {G H : Hp} {E : XK} {w : LS} {p : Prop} [Decidable p] {m : M α} {k : α → LS → Hp → Hp → Prop} (h : PostW κ S G H E ((if p then m else M.no) w) k) : p ∧ PostW κ S G H E (m w) k := by
  by_cases q : p
  · rw [if_pos q] at h
    exact ⟨q, h⟩
  · rw [if_neg q] at h
    exact h.elim
theorem de_tup {k} (h : DL X κ E es t fs) : DE X κ E (.Tuple es k pos) (tTup t) (tupM fs) := by
  refine ⟨pe_tup h.p, fun S G H ρ w σ Q env p => ?_⟩
  refine h.r S G H ρ w σ _ env (p.bind.imp fun ds w1 G1 H1 x1 s1 h1 vs av => ?_)
  obtain ⟨hz, h2⟩ := post_if h1
  refine ⟨by rw [av.len]; exact hz, fun q hq => ?_⟩
  exact post_new h2 x1.sub s1 _ hq _ (At.tupN x1.sub hq av)
theorem de_lst (h : DL X κ E es t fs) : DE X κ E (.List es pos) (tLst t) (lstM fs) := by
  refine ⟨pe_lst h.p, fun S G H ρ w σ Q env p => ?_⟩
  refine h.r S G H ρ w σ _ env (p.bind.imp fun ds w1 G1 H1 x1 s1 h1 vs av => ?_)
  obtain ⟨hz, h2⟩ := post_if h1
  refine ⟨by rw [av.len]; exact hz, fun q hq => ?_⟩
  exact post_new h2 x1.sub s1 _ hq _ (At.lstN x1.sub hq av)

/-! ### calls of built-ins by values -/
def RdC (κ : Cl → Addr) (E : XK) (r : List V → Hp → VK → Prop) (g : List PyData → M PyData) : Prop :=
  ∀ S G H w vs ds Q, Sub G H → StAt S G H w → AtAll G vs ds → PostW κ S G H E (g ds w) (kV Q) → r vs H Q
def callM (g : List PyData → M PyData) (fs : Ev → M (List PyData)) (ρ : Ev) : M PyData := do
  let ds ← fs ρ
  g ds
variable {rc : List V → Hp → VK → Prop} {gc : List PyData → M PyData}
theorem rd_cb (hr : RdC κ E rc gc) (h : RdL κ E t fs) : RdE κ E (tCB rc t) (callM gc fs) := by
  intro S G H ρ w σ Q env p
  refine h S G H ρ w σ _ env (p.bind.imp fun ds w1 G1 H1 x1 s1 h1 vs av => ?_)
  exact hr S G1 H1 w1 vs ds Q x1.sub s1 av h1
theorem de_callB {x : Str} {p : Pos} {id : String} (hc : CallR X (.builtin id) rc) (hr : RdC κ E rc gc) (hg : Gl X x) (hm : X.mg x = none) (hv : bootBuiltins x = some (.builtin id)) (ha : DL X κ E (e :: es) t fs) (hn : x ≠ "__name__" := by decide) (hdb : (x == ("__debug__" : Str)) = false := by decide)
    (he : starEach (e :: es) X.env = (false, eval e X.env) :: starEach es X.env := by rfl) (hpl : (backTo pos (starEach es X.env)).any (·.1) = false := by rfl) : DE X κ E (.Call (.Name x p) (e :: es) [] pos) (tCB rc t) (callM gc fs) :=
  ⟨pe_callB hc hg hm hv ha.p hn hdb he hpl, rd_cb hr ha.r⟩
theorem de_callTy {x : Str} {p : Pos} {T : String} (hc : CallR X (.type T) rc) (hr : RdC κ E rc gc) (hg : Gl X x) (hm : X.mg x = none) (hv : bootBuiltins x = some (.type T)) (ha : DL X κ E (e :: es) t fs) (hn : x ≠ "__name__" := by decide) (hdb : (x == ("__debug__" : Str)) = false := by decide)
    (he : starEach (e :: es) X.env = (false, eval e X.env) :: starEach es X.env := by rfl) (hpl : (backTo pos (starEach es X.env)).any (·.1) = false := by rfl) : DE X κ E (.Call (.Name x p) (e :: es) [] pos) (tCB rc t) (callM gc fs) :=
  ⟨pe_callTy hc hg hm hv ha.p hn hdb he hpl, rd_cb hr ha.r⟩

/-! ### calls of defs -/
/-- a def's promise by its function on data -/
def spD (κ : Cl → Addr) (n : Nat) (F : List Sl → M PyData) : Sp := fun vs H Q E => ∃ S G w as, vs.length = n ∧ Sub G H ∧ StAt S G H w ∧ ArgsAt S G vs as ∧ PostW κ S G H E (F as w) (kV Q)
def defM (F : List Sl → M PyData) (fA : Ev → M (List Sl)) (ρ : Ev) : M PyData := do
  let as ← fA ρ
  F as
def lenM (n : Nat) (F : List Sl → M PyData) (as : List Sl) : M PyData := if as.length = n then F as else M.no
theorem ArgsAt.len {S : Option SA} {G : Hp} : ∀ {vs : List V} {as : List Sl}, ArgsAt S G vs as → vs.length = as.length
  | _, _, .nil => rfl
  | _, _, .fz _ r => congrArg (· + 1) r.len
  | _, _, .st _ r => congrArg (· + 1) r.len
theorem rd_call {n : Nat} {F : List Sl → M PyData} (h : RdA κ E t fA) : RdE κ E (tCall (spD κ n (lenM n F)) [] E t) (defM (lenM n F) fA) := by
  intro S G H ρ w σ Q env p
  refine h S G H ρ w σ _ env (p.bind.imp fun as w1 G1 H1 x1 s1 h1 vs av => ?_)
  rw [List.append_nil]
  have h2 := h1
  unfold lenM at h2
  obtain ⟨hl, _⟩ := post_if h2
  exact ⟨S, G1, w1, as, by rw [av.len]; exact hl, x1.sub, s1, av, h1⟩
end
end Wh

namespace Wh
open PySem PySem.Spec PyProof.Rows L2

/-! ### defs that are called where no repr runs -/
structure FnG (P : Program) (w : World) (K : PySem.W.Frag) (mg : Str → Option Value) (base : Heap) (k : Nat) (f : Addr) (fd : FuncData) (ps : List Str) (sp : Sp) : Prop where
  len : ∀ vs H Q E, sp vs H Q E → vs.length = ps.length
  run : ∀ (A : Around) (outer : List PySem.Env) (s : Shared) (H : Hp) (args : Args) (us : List Value) (vs : List V) (Q : VK) (E : XK), A.guards = some [] → Room k A → Env0 P w K mg base A outer s H → BindsTo s fd args (ps.zip us) →
    Vals vs us → sp vs H Q E → codeAny (model P w) A (.call (.ref f) args) (CR (L2.CX P w) outer P w H s Q E) s
theorem FnG.mono {P : Program} {w : World} {K : PySem.W.Frag} {mg : Str → Option Value} {base : Heap} {j k : Nat} {f : Addr} {fd : FuncData} {ps : List Str} {sp : Sp} (F : FnG P w K mg base j f fd ps sp) (h : j ≤ k) : FnG P w K mg base k f fd ps sp :=
  ⟨F.len, fun A outer s H args us vs Q E hg hr => F.run A outer s H args us vs Q E hg (hr.mono h)⟩
section
variable {X : Cx} {k : Nat} {f : Addr} {fd : FuncData} {ps : List Str} {sp : Sp} {E : XK} {x : Str} {p pos : Pos} {e : Expr} {es : List Expr} {t : TA}
theorem run_G {pins : List (Addr × Obj)} {σ : L2.St} {H : Hp} {s : Shared} {Q : VK} {us : List Value} {vs : List V} (F : FnG X.prog X.w X.K X.mg X.base k f fd ps sp) (hgd : X.A.guards = some []) (hr : Room k X.A) (hb : Binds X.K fd ps []) (hx : Passes (L2.CX X.prog X.w) X E)
    (I : Inv X pins σ H s) (r : Vals vs us) (h : sp vs H Q E) : wpAny (model X.prog X.w) X.A (call (.ref f) us) (EP X pins σ Q) X.xe s := by
  have n1 : us.length = ps.length := by rw [← r.length, F.len _ _ _ _ h]
  have bt := hb s us I.kIn (by rw [List.append_nil]; exact n1)
  rw [List.append_nil] at bt
  have go := F.run X.A X.stack s H ⟨us, []⟩ us vs Q E hgd hr I.env0 bt r h
  refine wpAny_call (codeAny_mono go fun res s2 out => ?_)
  match res, out with
  | .error er, out => exact hx pins σ H s er s2 I out
  | .ok (.ret u), out => exact I.after out
  | .ok .next, out => exact out.elim
  | .ok .brk, out => exact out.elim
  | .ok .cont, out => exact out.elim
theorem pe_callG (F : FnG X.prog X.w X.K X.mg X.base k f fd ps sp) (hgd : X.A.guards = some []) (hr : Room k X.A) (hg : Gl X x) (hm : X.mg x = some (.ref f)) (hk : PySem.W.keepIn X.K (.ref f) = true) (hb : Binds X.K fd ps []) (hx : Passes (L2.CX X.prog X.w) X E)
    (ha : PA X (e :: es) t) (hdb : (x == ("__debug__" : Str)) = false := by decide) (he : starEach (e :: es) X.env = (false, eval e X.env) :: starEach es X.env := by rfl) (hpl : (backTo pos (starEach es X.env)).any (·.1) = false := by rfl) :
    PE X (.Call (.Name x p) (e :: es) [] pos) (fun σ H Q => t σ H fun vs H1 => sp vs H1 Q E) := ⟨fun pins s σ H Q I h =>
  wpAny_Call_Name_kw (ld_glob I hg hm (PySem.W.callWith_K (h₀ := X.base) I.ok.mod.kin hk (thn (ha.run pos pins s σ H _ I h) fun us s1 ⟨vs, H1, I1, r, q⟩ => ⟨I1.kIn, run_G F hgd hr hb hx I1 r q⟩) he hpl) hdb)⟩
theorem pe_call0G (F : FnG X.prog X.w X.K X.mg X.base k f fd ps sp) (hgd : X.A.guards = some []) (hr : Room k X.A) (hg : Gl X x) (hm : X.mg x = some (.ref f)) (hk : PySem.W.keepIn X.K (.ref f) = true) (hb : Binds X.K fd ps []) (hx : Passes (L2.CX X.prog X.w) X E)
    (hdb : (x == ("__debug__" : Str)) = false := by decide) : PE X (.Call (.Name x p) [] [] pos) (fun σ H Q => sp [] H Q E) := ⟨fun pins s σ H Q I h =>
  wpAny_Call_Name_kw (ld_glob I hg hm (PySem.W.callWith_K0 I.kIn hk (run_G (us := []) F hgd hr hb hx I .nil h)) hdb)⟩
end
section
variable {P : Program} {w : World} {K : PySem.W.Frag} {mg : Str → Option Value} {base : Heap} {x qual : Str} {params : Arguments} {body : List Stmt} {scope : Scope} {f : Addr} {fd : FuncData}
theorem fnG_of {N ps : List Str} {k : Nat} {sp : Sp} (F : FunD K x qual params body scope [] [] f fd) (S : FnScope N ps scope) (len : ∀ vs H Q E, sp vs H Q E → vs.length = ps.length)
    (hbody : ∀ (cdv : Value) (A : Around) (outer : List PySem.Env) (s : Shared) (H : Hp) (vs : List V) (Q : VK) (E : XK), A.guards = some [] → Room k (A.deeper (envOfC qual scope s.heap.objs.size f cdv)) → sp vs H Q E →
      ∃ t, PSs (cxOf (L2.CX P w) P w K mg base N qual scope f cdv A outer s H E) body t ∧ t { nx := fun _ H' => Q .non H', rt := Q } (start N vs) H) : FnG P w K mg base (k + 1) f fd ps sp := by
  obtain ⟨oc, od, dV, kVs, doc, pm, an, cdv, ct, osl, rfl, lk, hcd, _, _⟩ := F.ex
  refine ⟨len, fun A outer s H args us vs Q E hgd hr e0 hb r hsp => ?_⟩
  have keep : ∀ b o, base.get? b = some o → s.heap.get? b = some o := fun b o q => (e0.bs b o q).1
  have KX : K.In s.heap := e0.mod.kin.keeps keep
  have lim : s.heap.NoLimit := e0.mod.nolimit.keeps keep
  have kinds : ∀ y ∈ ps.zip us, scope.names.lookup y.1 = some .local ∨ (scope.names.lookup y.1 = some .cell ∧ ((cellsFrom (s.heap.objs.size + 1) scope.names []).lookup y.1).isSome = true) := by
    intro y hy
    obtain ⟨n, v⟩ := y
    exact (S.par n (List.of_mem_zip hy).1).imp id fun q => ⟨q, PySem.W.cellsFrom_some _ _ _ (.inl q)⟩
  have body_run : ∀ s1, InCallC s s.heap.objs.size (bindL (envOfC qual scope s.heap.objs.size f cdv).kindOf (ps.zip us) fun _ => none) (cellsFrom (s.heap.objs.size + 1) scope.names []) (bindC (envOfC qual scope s.heap.objs.size f cdv).kindOf (ps.zip us) fun _ => none) s1 →
      wpAny (model P w) (A.deeper (envOfC qual scope s.heap.objs.size f cdv)) (execs body (envOfC qual scope s.heap.objs.size f cdv)) (SP (cxOf (L2.CX P w) P w K mg base N qual scope f cdv A outer s H E) [] { nx := fun _ H' => Q .non H', rt := Q })
        (cxOf (L2.CX P w) P w K mg base N qual scope f cdv A outer s H E).xe s1 := fun s1 ic => by
    obtain ⟨t, ht, hq⟩ := hbody cdv A outer s H vs Q E hgd (hr.deeper _) hsp
    exact ht.run [] s1 (start N vs) H _ (inv_start S hr.hd e0 (len _ _ _ _ hsp) r ic) hq
  refine codeAny_call_function hr.depth (KX _ _ lk) rfl S.co S.gen rfl (PySem.W.codeRec_of KX hcd) (hb _ _ _ _ ?_)
  refine wpAny_newFunctionEnv_cells S.kind kinds fun env he s1 ic => ?_
  subst he
  refine ⟨lim.keeps ic.toInCall.keep, codeAny_func (wpAny_mono (body_run s1 ic) (fun fl s2 out => ?_) fun _ _ z => z)⟩
  match fl, out with
  | .ret u, ⟨v, σ2, H2, J, rv, q⟩ => exact ⟨v, H2, J.os, J.bare, J.base, J.hok, rv, q⟩
  | .next, ⟨σ2, H2, J, q⟩ => exact ⟨V.non, H2, J.os, J.bare, J.base, J.hok, rfl, q⟩
  | .brk, ⟨_, _, _, q⟩ => exact q.elim
  | .cont, ⟨_, _, _, q⟩ => exact q.elim
end

/-! ### defs by their functions on data -/
abbrev FnD (κ : Cl → Addr) (P : Program) (w : World) (K : PySem.W.Frag) (mg : Str → Option Value) (base : Heap) (k : Nat) (f : Addr) (fd : FuncData) (ps : List Str) (F : List Sl → M PyData) : Prop :=
  FnG P w K mg base k f fd ps (spD κ ps.length (lenM ps.length F))
section
variable {X : Cx} {κ : Cl → Addr} {E : XK} {pos : Pos} {e : Expr} {es : List Expr} {t : TA} {fA : Ev → M (List Sl)}
theorem rd_callG {n : Nat} {F : List Sl → M PyData} (h : RdA κ E t fA) : RdE κ E (fun σ H Q => t σ H fun vs H1 => spD κ n (lenM n F) vs H1 Q E) (defM (lenM n F) fA) := by
  intro S G H ρ w σ Q env p
  have q := rd_call (n := n) (F := F) h S G H ρ w σ Q env p
  have ee : (fun (vs : List V) (H1 : Hp) => spD κ n (lenM n F) (vs ++ []) H1 Q E) = fun vs H1 => spD κ n (lenM n F) vs H1 Q E := by
    funext vs H1
    rw [List.append_nil]
  show t σ H fun vs H1 => spD κ n (lenM n F) vs H1 Q E
  rw [← ee]
  exact q
theorem de_call {k : Nat} {a : Addr} {fd : FuncData} {ps : List Str} {F : List Sl → M PyData} {x : Str} {p : Pos} (hx : Passes (L2.CX X.prog X.w) X E) (hgd : X.A.guards = some []) (G : FnD κ X.prog X.w X.K X.mg X.base k a fd ps F) (hr : Room k X.A) (hk : PySem.W.keepIn X.K (.ref a) = true) (hb : Binds X.K fd ps [])
    (hm : X.mg x = some (.ref a)) (hg : Gl X x) (ha : DA X κ E (e :: es) t fA)
    (hdb : (x == ("__debug__" : Str)) = false := by decide) (he : starEach (e :: es) X.env = (false, eval e X.env) :: starEach es X.env := by rfl) (hpl : (backTo pos (starEach es X.env)).any (·.1) = false := by rfl) :
    DE X κ E (.Call (.Name x p) (e :: es) [] pos) (fun σ H Q => t σ H fun vs H1 => spD κ ps.length (lenM ps.length F) vs H1 Q E) (defM (lenM ps.length F) fA) :=
  ⟨pe_callG G hgd hr hg hm hk hb hx ha.p hdb he hpl, rd_callG ha.r⟩
theorem de_call0 {k : Nat} {a : Addr} {fd : FuncData} {F : List Sl → M PyData} {x : Str} {p : Pos} (hx : Passes (L2.CX X.prog X.w) X E) (hgd : X.A.guards = some []) (G : FnD κ X.prog X.w X.K X.mg X.base k a fd [] F) (hr : Room k X.A) (hk : PySem.W.keepIn X.K (.ref a) = true) (hb : Binds X.K fd [] [])
    (hm : X.mg x = some (.ref a)) (hg : Gl X x) (hdb : (x == ("__debug__" : Str)) = false := by decide) :
    DE X κ E (.Call (.Name x p) [] [] pos) (fun σ H Q => spD κ 0 (lenM 0 F) [] H Q E) (defM (lenM 0 F) aNil) :=
  ⟨pe_call0G G hgd hr hg hm hk hb hx hdb, fun S G H ρ w σ Q env p => rd_callG (n := 0) (F := F) (t := tNil) (fun S G H ρ w σ Q env h => post_pure h env.sub env.st [] .nil) S G H ρ w σ Q env p⟩

/-! ### a def's body -/
def entM (as : List Sl) (n : Nat) : Ev := as ++ List.replicate (n - as.length) .un
def bodyM (n : Nat) (m : Ev → M Fl) (as : List Sl) : M PyData := do
  let r ← m (entM as n)
  match r with
  | .nx _ => pure .none
  | .rt d => pure d
theorem start_len {N : List Str} {vs : List V} (h : vs.length ≤ N.length) : (start N vs).length = N.length := by
  unfold L2.start
  rw [List.length_append, List.length_map, List.length_replicate]
  omega
theorem ArgsAt.get {S : Option SA} {G : Hp} : ∀ {vs : List V} {as : List Sl} {i : Nat} {s : Sl}, ArgsAt S G vs as → as[i]? = some s → ∃ v, vs[i]? = some v ∧ ∀ H, SlAt S G H s (some v)
  | _, _, _, _, .nil, e => by simp at e
  | _, _, 0, _, .fz h _, e => by simp at e; subst e; exact ⟨_, rfl, fun H => ⟨_, rfl, h⟩⟩
  | _, _, 0, _, .st h _, e => by simp at e; subst e; exact ⟨_, rfl, fun H => ⟨_, h, rfl⟩⟩
  | _, _, i + 1, _, .fz _ r, e => by
    obtain ⟨v, h1, h2⟩ := ArgsAt.get (i := i) r (by simpa using e)
    exact ⟨v, by simpa using h1, h2⟩
  | _, _, i + 1, _, .st _ r, e => by
    obtain ⟨v, h1, h2⟩ := ArgsAt.get (i := i) r (by simpa using e)
    exact ⟨v, by simpa using h1, h2⟩
theorem ArgsAt.no_ow {S : Option SA} {G : Hp} : ∀ {vs : List V} {as : List Sl} {i : Nat} {x : List PyData}, ArgsAt S G vs as → as[i]? ≠ some (.ow x)
  | _, _, _, _, .nil => by simp
  | _, _, 0, _, .fz _ _ => by simp
  | _, _, 0, _, .st _ _ => by simp
  | _, _, i + 1, _, .fz _ r => by simpa using ArgsAt.no_ow (i := i) r
  | _, _, i + 1, _, .st _ r => by simpa using ArgsAt.no_ow (i := i) r
theorem env_start {S : Option SA} {G H : Hp} {w : LS} {N : List Str} {vs : List V} {as : List Sl} (x : Sub G H) (s : StAt S G H w) (a : ArgsAt S G vs as) (h : as.length ≤ N.length) :
    Ent S (entM as N.length) w (start N vs) G H ∧ Bas S G H (entM as N.length) (start N vs) G H := by
  have hl := a.len
  have noow : ∀ (i : Nat) (x : List PyData), (entM as N.length)[i]? ≠ some (.ow x) := fun i y e => by
    unfold entM at e
    by_cases hi : i < as.length
    · rw [List.getElem?_append_left hi] at e
      exact a.no_ow e
    · rw [List.getElem?_append_right (by omega), List.getElem?_replicate] at e
      split at e <;> cases e
  refine ⟨⟨x, ?_, fun i sl e => ?_, fun i j y z l e1 _ _ _ => absurd e1 (noow i y), s⟩, ⟨Ext.refl x, fun i y l e1 _ => absurd e1 (noow i y)⟩⟩
  · rw [start_len (by omega)]
    unfold entM
    rw [List.length_append, List.length_replicate]
    omega
  · unfold entM at e
    by_cases hi : i < as.length
    · rw [List.getElem?_append_left hi] at e
      obtain ⟨v, h1, h2⟩ := a.get e
      refine ⟨some v, ?_, h2 H⟩
      unfold L2.start
      rw [List.getElem?_append_left (by rw [List.length_map]; omega), List.getElem?_map, h1]
      rfl
    · have hlt : i < N.length := by
        have q := (List.getElem?_eq_some_iff.mp e).1
        rw [List.length_append, List.length_replicate] at q
        omega
      rw [List.getElem?_append_right (by omega), List.getElem?_replicate] at e
      split at e
      · cases e
        refine ⟨none, ?_, True.intro⟩
        unfold L2.start
        rw [List.getElem?_append_right (by rw [List.length_map]; omega), List.getElem?_replicate, List.length_map, if_pos (by omega)]
      · cases e
end
section
variable {P : Program} {w : World} {K : PySem.W.Frag} {mg : Str → Option Value} {base : Heap} {x qual : Str} {params : Arguments} {body : List Stmt} {scope : Scope} {f : Addr} {fd : FuncData} {κ : Cl → Addr}
theorem body_post {S : Option SA} {G H : Hp} {E : XK} {n : Nat} {m : Ev → M Fl} {as : List Sl} {w : LS} {Q : VK} (h : PostW κ S G H E (bodyM n m as w) (kV Q)) :
    SPost κ S G H E { nx := fun _ H' => Q .non H', rt := Q } (m (entM as n) w) := by
  have h' : PostW κ S G H E (M.bind (m (entM as n)) (fun r => match r with | .nx _ => pure .none | .rt d => pure d) w) (kV Q) := h
  unfold M.bind at h'
  cases e : m (entM as n) w with
  | ok r w' =>
    rw [e] at h'
    cases r with
    | nx ρ' =>
      intro σ' G' H' env b
      exact h' G' H' b.ext env.st .non .non
    | rt d =>
      intro v G' H' x s a
      exact h' G' H' x s v a
  | er c d w' =>
    rw [e] at h'
    exact h'
  | no =>
    rw [e] at h'
    exact h'.elim
/-- a def computes its function on data -/
theorem fnD_of {N ps : List Str} {k : Nat} {m : Ev → M Fl} (F : FunD K x qual params body scope [] [] f fd) (S : FnScope N ps scope)
    (hbody : ∀ (cdv : Value) (A : Around) (outer : List PySem.Env) (s : Shared) (H : Hp) (E : XK), A.guards = some [] → Room k (A.deeper (envOfC qual scope s.heap.objs.size f cdv)) →
      ∃ t, DSs (cxOf (L2.CX P w) P w K mg base N qual scope f cdv A outer s H E) κ E body t m) : FnD κ P w K mg base (k + 1) f fd ps (bodyM N.length m) := by
  have hpl : ps.length ≤ N.length := by have := congrArg List.length S.pre; rw [List.length_take] at this; omega
  refine fnG_of F S (fun vs H Q E ⟨_, _, _, _, hl, _⟩ => hl) fun cdv A outer s H vs Q E hg hr ⟨S', G, w', as, hl, hx, hs, ha, hp⟩ => ?_
  obtain ⟨t, ht⟩ := hbody cdv A outer s H E hg hr
  have hal := ha.len
  have hp' := hp
  unfold lenM at hp'
  obtain ⟨e1, e2⟩ := post_if hp'
  obtain ⟨env, b⟩ := env_start hx hs ha (N := N) (by omega)
  exact ⟨t, ht.p, ht.r S' G H G H _ w' _ _ env b (body_post e2)⟩
end
/-- what leaves the body of a def -/
theorem hx_of {P : Program} {w : World} {K : PySem.W.Frag} {mg : Str → Option Value} {base : Heap} {N : List Str} {qual : Str} {scope : Scope} {f : Addr} {cdv : Value} {A : Around} {outer : List PySem.Env} {s : Shared} {H : Hp} {E : XK} :
    Takes (cxOf (L2.CX P w) P w K mg base N qual scope f cdv A outer s H E) (fun c d _ H' => E c d H') := takes_of rfl rfl rfl rfl
theorem px_of {P : Program} {w : World} {K : PySem.W.Frag} {mg : Str → Option Value} {base : Heap} {N : List Str} {qual : Str} {scope : Scope} {f : Addr} {cdv : Value} {A : Around} {outer : List PySem.Env} {s : Shared} {H : Hp} {E : XK} :
    Passes (L2.CX P w) (cxOf (L2.CX P w) P w K mg base N qual scope f cdv A outer s H E) E := fun pins σ H1 s1 e s' I h => passes_call hx_of (fun _ _ _ _ h => h) pins σ H1 s1 e s' I h
end Wh

namespace Wh
open PySem PySem.Spec PyProof.Rows L2

section
variable {X : Cx} {κ : Cl → Addr} {E : XK}
/-! ### + - * // % ** -/
def addD : PyData → PyData → M PyData
  | .int i, .int j => pure (.int (i + j))
  | .tuple xs, .tuple ys => if xs.length + ys.length ≤ sizeLine then pure (.tuple (xs ++ ys)) else M.no
  | .list xs, .list ys => if xs.length + ys.length ≤ sizeLine then pure (.list (xs ++ ys)) else M.no
  | _, _ => M.no
abbrev rAddD (K : PySem.W.Frag) : R2 := fun x y H Q => (rI0 fun i j => .int (i + j)) x y H Q ∨ (rCatA K x y H Q ∨ rCat x y H Q)
theorem op_addD : OpR X (binaryOp .Add) (rAddD X.K) := op_add.or (op_catA.or op_cat)
theorem rd_addD {K : PySem.W.Frag} : RdOp κ E (rAddD K) addD := by
  intro S G H w x y d e Q k s ax ay h
  cases ax with
  | int i =>
    cases ay with
    | int j => exact .inl ⟨i, j, rfl, rfl, post_pure h k s _ (.int _)⟩
    | _ => exact h.elim
  | @tup a xs ds ea ra =>
    cases ay with
    | @tup b ys es eb rb =>
      obtain ⟨hz, h2⟩ := post_if h
      refine .inr (.inl ⟨a, b, xs, ys, rfl, rfl, SqT.of (k _ _ ea), SqT.of (k _ _ eb), by rw [ra.len, rb.len]; exact hz, fun q => ?_, fun _ q => ?_, fun _ _ p hp => ?_⟩)
      · subst q
        cases ra
        exact post_pure h2 k s _ (.tup eb rb)
      · subst q
        cases rb
        exact post_pure h2 k s _ (.tup ea (by rw [List.append_nil]; exact ra))
      · exact post_new h2 k s _ hp _ (At.tupN k hp (ra.append rb))
    | _ => exact h.elim
  | @lst a xs ds ea ra =>
    cases ay with
    | @lst b ys es eb rb =>
      obtain ⟨hz, h2⟩ := post_if h
      refine .inr (.inr ⟨a, b, xs, ys, rfl, rfl, k _ _ ea, k _ _ eb, by rw [ra.len, rb.len]; exact hz, fun p hp => ?_⟩)
      exact post_new h2 k s _ hp _ (At.lstN k hp (ra.append rb))
    | _ => exact h.elim
  | _ => exact h.elim
def intD (c : Int → Int → Bool) (g : Int → Int → Int) : PyData → PyData → M PyData
  | .int i, .int j => if c i j = true then pure (.int (g i j)) else M.no
  | _, _ => M.no
theorem rd_intD {C : Int → Int → Prop} {c : Int → Int → Bool} {g : Int → Int → Int} (hc : ∀ i j, c i j = true → C i j) : RdOp κ E (rI C fun i j => .int (g i j)) (intD c g) := by
  intro S G H w x y d e Q k s ax ay h
  cases ax with
  | int i =>
    cases ay with
    | int j =>
      obtain ⟨hz, h2⟩ := post_if h
      exact ⟨i, j, rfl, rfl, hc i j hz, post_pure h2 k s _ (.int _)⟩
    | _ => exact h.elim
  | _ => exact h.elim
def subD : PyData → PyData → M PyData
  | .int i, .int j => pure (.int (i - j))
  | _, _ => M.no
theorem rd_subD : RdOp κ E (rI0 fun i j => .int (i - j)) subD := by
  intro S G H w x y d e Q k s ax ay h
  cases ax with
  | int i =>
    cases ay with
    | int j => exact ⟨i, j, rfl, rfl, post_pure h k s _ (.int _)⟩
    | _ => exact h.elim
  | _ => exact h.elim
abbrev modD : PyData → PyData → M PyData := intD (fun _ j => decide (0 < j)) fun i j => i % j
theorem rd_modD : RdOp κ E (rI (fun _ j => 0 < j) fun i j => .int (i % j)) modD := rd_intD fun _ _ h => of_decide_eq_true h
abbrev divD : PyData → PyData → M PyData := intD (fun _ j => decide (0 < j ∧ j < 1073741824)) fun i j => i / j
theorem rd_divD : RdOp κ E (rI CDiv fun i j => .int (i / j)) divD := rd_intD fun _ j h => show 0 < j ∧ j < 1073741824 from of_decide_eq_true h
abbrev powD : PyData → PyData → M PyData := intD (fun i j => decide (0 ≤ j ∧ j ≤ 1000000 ∧ i.natAbs < 2 ^ 64)) fun i j => i ^ j.toNat
theorem rd_powD : RdOp κ E (rI CPow fun i j => .int (i ^ j.toNat)) powD := rd_intD fun i j h => show 0 ≤ j ∧ j ≤ 1000000 ∧ i.natAbs < 2 ^ 64 from of_decide_eq_true h
/-- t * 1 is t -/
theorem tuple_mul1 (l : Addr) (items : Array Value) (n : Nat) (dd : Option Addr) (sl : Array (Option Value)) (u : Tok) :
    Meets (Builtin.«tuple.__mul__» ⟨[.ref l, .int 1 u], []⟩) (fun _ R s => s.heap.get? l = some { cls := .type "tuple", dict := dd, data := .seq items n, slots := sl } ∧ R (.ok (.ret (Value.ref l))) s) :=
  .of_wp fun prog w A R s h => by
    obtain ⟨hp, g, d, tk, os⟩ := s
    obtain ⟨hl, h⟩ := h
    have f1 := AutoSeq1.idx_int
    wp_walk using wpAny_loadPart' hl
    repeat (first
      | (refine wpAny_ite_false (decide_eq_false (by decide)) ?_; wp_walk using wpAny_loadPart' hl)
      | (refine wpAny_ite_true (decide_eq_true (by simp)) ?_; wp_walk using wpAny_loadPart' hl))
    all_goals exact ⟨_, rfl, h⟩

def rRep1 (K : PySem.W.Frag) : R2 := fun x y H Q => ∃ l xs, x = .ref l ∧ y = .int 1 ∧ SqT K H l xs ∧ Q (.ref l) H
theorem op_rep1 : OpR X (binaryOp .Mult) (rRep1 X.K) := by
  intro pins s σ H x y v u Q I rx ry h
  obtain ⟨l, xs, rfl, rfl, hT, q⟩ := h
  cases rx
  obtain ⟨t, rfl⟩ := ry
  obtain ⟨its, r, ⟨⟨cls, dd, data, sl⟩, ho, hc, n, hd⟩, hs⟩ := I.tuple hT
  simp only at hc hd
  subst hc hd
  exact wpAny_binaryOp_repeat_ref (T := "tuple") (U := "int") (by decide) ⟨_, ho, rfl⟩ (fun s' => typeIs_int s' 1 t) noFill_tuple_mul F.fills_int_mul F.slot_int_rmul repeat_tuple F.slot_int_index.lookup
    (call_meets F.slot_int_rmul (typeIs_int s 1 t) F.entry_int_rmul (F.args_int_rmul_2 _ _) (int_rmul_tuple 1 t l its.toArray n dd sl)
      ⟨ho, rfl, ⟨_, ho, rfl⟩, call_meets F.slot_tuple_mul ⟨_, ho, rfl⟩ F.entry_tuple_mul (F.args_tuple_mul_2 _ _) (tuple_mul1 l its.toArray n dd sl t) ⟨ho, ⟨.ref l, H, I, rfl, q⟩⟩⟩)
def mulD : PyData → PyData → M PyData
  | .int i, .int j => if (-(2 ^ 64) < i ∧ i < 2 ^ 64) ∨ (-(2 ^ 64) < j ∧ j < 2 ^ 64) then pure (.int (i * j)) else M.no
  | .tuple xs, .int k => if xs ≠ [] ∧ xs.length ≤ 1000 ∧ 1 ≤ k ∧ k ≤ 1000 then pure (.tuple (List.replicate k.toNat xs).flatten) else M.no
  | _, _ => M.no
abbrev rMulD (K : PySem.W.Frag) : R2 := fun x y H Q => (rI CMul fun i j => .int (i * j)) x y H Q ∨ (rRepT K x y H Q ∨ rRep1 K x y H Q)
theorem op_mulD : OpR X (binaryOp .Mult) (rMulD X.K) := op_mul.or (op_repT.or op_rep1)
theorem AtAll.repF {G : Hp} {xs : List V} {ds : List PyData} (h : AtAll G xs ds) : ∀ n : Nat, AtAll G (List.replicate n xs).flatten (List.replicate n ds).flatten
  | 0 => .nil
  | n + 1 => by
    rw [List.replicate_succ, List.replicate_succ, List.flatten_cons, List.flatten_cons]
    exact h.append (AtAll.repF h n)
theorem rd_mulD {K : PySem.W.Frag} : RdOp κ E (rMulD K) mulD := by
  intro S G H w x y d e Q k s ax ay h
  cases ax with
  | int i =>
    cases ay with
    | int j =>
      obtain ⟨hz, h2⟩ := post_if h
      exact .inl ⟨i, j, rfl, rfl, hz, post_pure h2 k s _ (.int _)⟩
    | _ => exact h.elim
  | @tup a xs ds ea ra =>
    cases ay with
    | int j =>
      obtain ⟨⟨z1, z2, z3, z4⟩, h2⟩ := post_if h
      have hl := ra.len
      by_cases hj : j = 1
      · subst hj
        refine .inr (.inr ⟨a, xs, rfl, rfl, SqT.of (k _ _ ea), post_pure h2 k s _ ?_⟩)
        have e1 : (List.replicate (1 : Int).toNat ds).flatten = ds := by simp
        rw [e1]
        exact .tup ea ra
      · refine .inr (.inl ⟨a, j, xs, rfl, rfl, SqT.of (k _ _ ea), fun q => z1 (List.eq_nil_of_length_eq_zero (by rw [← hl, q]; rfl)), by omega, z4, by omega, fun p hp => ?_⟩)
        exact post_new h2 k s _ hp _ (At.tupN k hp (ra.repF _))
    | _ => exact h.elim
  | _ => exact h.elim

/-! ### comparisons -/
def eqvD (neg : Bool) (d e : PyData) : M PyData := if SeqAt.shaped d = true ∧ SeqAt.shaped e = true then pure (.bool (if neg then !PyData.eqv d e else PyData.eqv d e)) else M.no
abbrev eqD : PyData → PyData → M PyData := eqvD false
abbrev neD : PyData → PyData → M PyData := eqvD true
theorem noDict_of_shaped {d : PyData} (h : SeqAt.shaped d = true) : PyData.hasDict d = false := PyData.hasDict_of_canLay d (SeqAt.canLay_of_shaped h)
theorem rd_eqD {K : PySem.W.Frag} : RdOp κ E (rEqD K) eqD := by
  intro S G H w x y d e Q k s ax ay h
  obtain ⟨⟨h1, h2⟩, h3⟩ := post_if h
  exact ⟨d, e, At.dp' k (noDict_of_shaped h1) ax, At.dp' k (noDict_of_shaped h2) ay, h1, h2, post_pure h3 k s _ (.bl _)⟩
theorem rd_neD {K : PySem.W.Frag} : RdOp κ E (rNeD K) neD := by
  intro S G H w x y d e Q k s ax ay h
  obtain ⟨⟨h1, h2⟩, h3⟩ := post_if h
  exact ⟨d, e, At.dp' k (noDict_of_shaped h1) ax, At.dp' k (noDict_of_shaped h2) ay, h1, h2, post_pure h3 k s _ (.bl _)⟩
def cmpD (f : Int → Int → Bool) : PyData → PyData → M PyData
  | .int i, .int j => pure (.bool (f i j))
  | _, _ => M.no
theorem rd_cmpD {f : Int → Int → Bool} : RdOp κ E (rI0 fun i j => .bl (f i j)) (cmpD f) := by
  intro S G H w x y d e Q k s ax ay h
  cases ax with
  | int i =>
    cases ay with
    | int j => exact ⟨i, j, rfl, rfl, post_pure h k s _ (.bl _)⟩
    | _ => exact h.elim
  | _ => exact h.elim
abbrev ltD : PyData → PyData → M PyData := cmpD fun i j => decide (i < j)
abbrev leD : PyData → PyData → M PyData := cmpD fun i j => decide (i ≤ j)
abbrev gtD : PyData → PyData → M PyData := cmpD fun i j => decide (j < i)
abbrev geD : PyData → PyData → M PyData := cmpD fun i j => decide (j ≤ i)
/-- < of tuples -/
def rLtD (K : PySem.W.Frag) : R2 := fun x y H Q => ∃ d e, Dp K H x d ∧ Dp K H y e ∧ PySem.W.alike d e = true ∧ d ≠ .none ∧ d.depth ≤ 64 ∧ Q (.bl (PySem.W.dataLt d e)) H
theorem op_ltTD (hu : X.A.units + 64 < cLine) : OpR X (compareOp .Lt) (rLtD X.K) := by
  intro pins s σ H x y v u Q I rx ry h
  obtain ⟨d, e, hd, he, al, ne, z, q⟩ := h
  obtain ⟨as, r1⟩ := Dp.reads I d x v hd rx
  obtain ⟨bs, r2⟩ := Dp.reads I e y u he ry
  exact PySem.W.rcLt_alike d e X.A s v u as bs r1 r2 al ne (by omega) X.prog X.w X.xe _ ⟨.bl _, H, I, rfl, q⟩
def ltTD : PyData → PyData → M PyData
  | .tuple xs, .tuple ys => if PySem.W.alike (.tuple xs) (.tuple ys) = true ∧ SeqAt.shaped (.tuple xs) = true ∧ SeqAt.shaped (.tuple ys) = true then pure (.bool (PySem.W.dataLt (.tuple xs) (.tuple ys))) else M.no
  | _, _ => M.no
theorem depth_of_shaped {d : PyData} (h : SeqAt.shaped d = true) : d.depth ≤ 64 := by
  have h' : (d.canLay0 && decide (d.depth ≤ 64)) = true := h
  exact of_decide_eq_true (Bool.and_eq_true_iff.mp h').2
theorem rd_ltTD {K : PySem.W.Frag} : RdOp κ E (rLtD K) ltTD := by
  intro S G H w x y d e Q k s ax ay h
  cases d with
  | tuple xs =>
    cases e with
    | tuple ys =>
      obtain ⟨⟨h1, h2, h2'⟩, h3⟩ := post_if h
      exact ⟨_, _, At.dp' k (noDict_of_shaped h2) ax, At.dp' k (noDict_of_shaped h2') ay, h1, (fun z => nomatch z), depth_of_shaped h2, post_pure h3 k s _ (.bl _)⟩
    | _ => exact h.elim
  | _ => exact h.elim
def isInD (neg : Bool) : PyData → PyData → M PyData
  | d, .list ds => if SeqAt.shaped d = true ∧ SeqAt.shaped (.list ds) = true then pure (.bool (if neg then !ds.any fun z => PyData.eqv z d else ds.any fun z => PyData.eqv z d)) else M.no
  | _, _ => M.no
abbrev inD : PyData → PyData → M PyData := isInD false
abbrev niD : PyData → PyData → M PyData := isInD true
theorem rd_inD {K : PySem.W.Frag} : RdOp κ E (rInD K) inD := by
  intro S G H w x y d e Q k s ax ay h
  cases e with
  | list ds =>
    obtain ⟨⟨h1, h2⟩, h3⟩ := post_if h
    exact ⟨d, ds, At.dp' k (noDict_of_shaped h1) ax, At.dp' k (noDict_of_shaped h2) ay, h1, h2, post_pure h3 k s _ (.bl _)⟩
  | _ => exact h.elim
theorem rd_niD {K : PySem.W.Frag} : RdOp κ E (rNotInD K) niD := by
  intro S G H w x y d e Q k s ax ay h
  cases e with
  | list ds =>
    obtain ⟨⟨h1, h2⟩, h3⟩ := post_if h
    exact ⟨d, ds, At.dp' k (noDict_of_shaped h1) ax, At.dp' k (noDict_of_shaped h2) ay, h1, h2, post_pure h3 k s _ (.bl _)⟩
  | _ => exact h.elim
/-- in, not in a list that a slot holds, the def's own or not -/
def inSlM (neg : Bool) (f : Ev → M PyData) (j : Nat) (ρ : Ev) : M PyData := do
  let d ← f ρ
  match ρ[j]? with
  | some (.fz e) => isInD neg d e
  | some (.ow ds) => isInD neg d (.list ds)
  | _ => M.no
theorem inSl_core {K : PySem.W.Frag} {neg : Bool} {ta : TE} {f : Ev → M PyData} {j : Nat} {r : R2} (hf : RdE κ E ta f)
    (hr : ∀ S G H w x y d ds Q, Sub G H → StAt S G H w → At G x d → Dp K H y (.list ds) → PostW κ S G H E (isInD neg d (.list ds) w) (kV Q) → r x y H Q)
    (hr2 : ∀ S G H w x y d e Q, Sub G H → StAt S G H w → At G x d → At G y e → PostW κ S G H E (isInD neg d e w) (kV Q) → r x y H Q) : RdE κ E (tOp r ta (tVar j)) (inSlM neg f j) := by
  intro S G H ρ w σ Q env h
  refine hf S G H ρ w σ _ env (h.bind.imp fun d w1 G1 H1 x1 s1 h1 v av => ?_)
  have env1 := env.ext x1 s1
  cases e : ρ[j]? with
  | none => rw [e] at h1; exact h1.elim
  | some sl =>
    rw [e] at h1
    obtain ⟨o, e1, e2⟩ := env1.sl j _ e
    cases sl with
    | fz b =>
      obtain ⟨u, rfl, au⟩ := e2
      exact ⟨u, e1, hr2 S G1 H1 w1 v u d b Q x1.sub s1 av au h1⟩
    | ow ds =>
      obtain ⟨l, xs, rfl, q1, q2, q3, q4⟩ := e2
      refine ⟨_, e1, hr S G1 H1 w1 v _ d ds Q x1.sub s1 av ?_ h1⟩
      obtain ⟨⟨z1, z2⟩, _⟩ := post_if h1
      exact .lst (SqL.of q1) (AtAll.dp x1.sub ds xs (by have := noDict_of_shaped z2; simpa [PyData.hasDict] using this) q3)
    | un => exact h1.elim
    | st => exact h1.elim
theorem rd_inSl {K : PySem.W.Frag} {ta : TE} {f : Ev → M PyData} (j : Nat) (hf : RdE κ E ta f) : RdE κ E (tOp (rInD K) ta (tVar j)) (inSlM false f j) :=
  inSl_core (K := K) hf (fun S G H w x y d ds Q k s ax dy h => by
    obtain ⟨⟨h1, h2⟩, h3⟩ := post_if h
    exact ⟨d, ds, At.dp' k (noDict_of_shaped h1) ax, dy, h1, h2, post_pure h3 k s _ (.bl _)⟩) (fun S G H w x y d e Q k s ax ay h => rd_inD S G H w x y d e Q k s ax ay h)
theorem rd_niSl {K : PySem.W.Frag} {ta : TE} {f : Ev → M PyData} (j : Nat) (hf : RdE κ E ta f) : RdE κ E (tOp (rNotInD K) ta (tVar j)) (inSlM true f j) :=
  inSl_core (K := K) hf (fun S G H w x y d ds Q k s ax dy h => by
    obtain ⟨⟨h1, h2⟩, h3⟩ := post_if h
    exact ⟨d, ds, At.dp' k (noDict_of_shaped h1) ax, dy, h1, h2, post_pure h3 k s _ (.bl _)⟩) (fun S G H w x y d e Q k s ax ay h => rd_niD S G H w x y d e Q k s ax ay h)
section
variable {a b : Expr} {ta : TE} {fa : Ev → M PyData} {pos p : Pos} {x : Str}
theorem de_inSl (hu : X.A.units + 65 < cLine) (j : Nat) (ha : DE X κ E a ta fa) (hN : X.N[j]? = some x := by rfl) (hv : Vis X.env.scope x := by first | exact Or.inl rfl | exact Or.inr (Or.inl rfl) | exact Or.inr (Or.inr rfl)) (hd : (x == ("__debug__" : Str)) = false := by decide)
    (hcd : (x == ("__classdict__" : Str)) = false := by decide) (hm : behindInMarks .In (.Name x p) = false := by rfl) : DE X κ E (.Compare a [.In] [.Name x p] pos) (tOp (rInD X.K) ta (tVar j)) (inSlM false fa j) :=
  ⟨pe_cmpR (op_inD hu) ha.p (pe_var hN hv hd hcd) hm, rd_inSl j ha.r⟩
theorem de_niSl (hu : X.A.units + 65 < cLine) (j : Nat) (ha : DE X κ E a ta fa) (hN : X.N[j]? = some x := by rfl) (hv : Vis X.env.scope x := by first | exact Or.inl rfl | exact Or.inr (Or.inl rfl) | exact Or.inr (Or.inr rfl)) (hd : (x == ("__debug__" : Str)) = false := by decide)
    (hcd : (x == ("__classdict__" : Str)) = false := by decide) (hm : behindInMarks .NotIn (.Name x p) = false := by rfl) : DE X κ E (.Compare a [.NotIn] [.Name x p] pos) (tOp (rNotInD X.K) ta (tVar j)) (inSlM true fa j) :=
  ⟨pe_cmpR (op_notInD hu) ha.p (pe_var hN hv hd hcd) hm, rd_niSl j ha.r⟩
theorem dt_inSl (hu : X.A.units + 65 < cLine) (j : Nat) (ha : DE X κ E a ta fa) (hN : X.N[j]? = some x := by rfl) (hv : Vis X.env.scope x := by first | exact Or.inl rfl | exact Or.inr (Or.inl rfl) | exact Or.inr (Or.inr rfl)) (hd : (x == ("__debug__" : Str)) = false := by decide)
    (hcd : (x == ("__classdict__" : Str)) = false := by decide) (hm : behindInMarks .In (.Name x p) = false := by rfl) : DT X κ E (.Compare a [.In] [.Name x p] pos) (tTest (tOp (rInD X.K) ta (tVar j))) (testM (inSlM false fa j)) :=
  ⟨pt_cmpR (op_inD hu) ha.p (pe_var hN hv hd hcd) hm, rd_tB (rd_inSl j ha.r)⟩
theorem dt_niSl (hu : X.A.units + 65 < cLine) (j : Nat) (ha : DE X κ E a ta fa) (hN : X.N[j]? = some x := by rfl) (hv : Vis X.env.scope x := by first | exact Or.inl rfl | exact Or.inr (Or.inl rfl) | exact Or.inr (Or.inr rfl)) (hd : (x == ("__debug__" : Str)) = false := by decide)
    (hcd : (x == ("__classdict__" : Str)) = false := by decide) (hm : behindInMarks .NotIn (.Name x p) = false := by rfl) : DT X κ E (.Compare a [.NotIn] [.Name x p] pos) (tTest (tOp (rNotInD X.K) ta (tVar j))) (testM (inSlM true fa j)) :=
  ⟨pt_cmpR (op_notInD hu) ha.p (pe_var hN hv hd hcd) hm, rd_tB (rd_niSl j ha.r)⟩
end
def isND (neg : Bool) : PyData → PyData → M PyData
  | .none, .none => pure (.bool (!neg))
  | _, .none => pure (.bool neg)
  | _, _ => M.no
theorem rd_isN : RdOp κ E (fun x y H Q => y = .non ∧ Q (.bl (decide (x = .non))) H) (isND false) := by
  intro S G H w x y d e Q k s ax ay h
  cases e with
  | none =>
    cases ay
    refine ⟨rfl, ?_⟩
    cases ax <;> exact post_pure h k s _ (.bl _)
  | _ => cases ax <;> exact h.elim
theorem rd_notN : RdOp κ E (fun x y H Q => y = .non ∧ Q (.bl (!decide (x = .non))) H) (isND true) := by
  intro S G H w x y d e Q k s ax ay h
  cases e with
  | none =>
    cases ay
    refine ⟨rfl, ?_⟩
    cases ax <;> exact post_pure h k s _ (.bl _)
  | _ => cases ax <;> exact h.elim

/-! ### items, slices -/
def ixD : PyData → PyData → M PyData
  | .list ds, .int i => match atI ds i with
    | some d => pure d
    | none => M.no
  | .tuple ds, .int i => match atI ds i with
    | some d => pure d
    | none => M.no
  | _, _ => M.no
theorem AtAll.atI {G : Hp} {xs : List V} {ds : List PyData} {i : Int} {d : PyData} (h : AtAll G xs ds) (e : L2.atI ds i = some d) : ∃ v, L2.atI xs i = some v ∧ At G v d := by
  unfold L2.atI at e ⊢
  rw [h.len]
  obtain ⟨j, e1, e2⟩ := Option.bind_eq_some_iff.mp e
  obtain ⟨v, e3, a⟩ := h.get e2
  exact ⟨v, by rw [e1]; exact e3, a⟩
theorem rd_ixD {K : PySem.W.Frag} : RdOp κ E (rIx K) ixD := by
  intro S G H w x y d e Q k s ax ay h
  cases ax with
  | @lst a xs ds ea ra =>
    cases ay with
    | int i =>
      have h' : PostW κ S G H E ((match L2.atI ds i with | some d => pure d | none => M.no : M PyData) w) (kV Q) := h
      cases q : L2.atI ds i with
      | none => rw [q] at h'; exact h'.elim
      | some d =>
        rw [q] at h'
        obtain ⟨v, e1, av⟩ := ra.atI q
        exact .inl ⟨a, xs, i, v, rfl, rfl, SqL.of (k _ _ ea), e1, post_pure h' k s _ av⟩
    | _ => exact h.elim
  | @tup a xs ds ea ra =>
    cases ay with
    | int i =>
      have h' : PostW κ S G H E ((match L2.atI ds i with | some d => pure d | none => M.no : M PyData) w) (kV Q) := h
      cases q : L2.atI ds i with
      | none => rw [q] at h'; exact h'.elim
      | some d =>
        rw [q] at h'
        obtain ⟨v, e1, av⟩ := ra.atI q
        exact .inr (.inl ⟨a, xs, i, v, rfl, rfl, SqT.of (k _ _ ea), e1, post_pure h' k s _ av⟩)
    | _ => exact h.elim
  | _ => exact h.elim
def cutD (ds : List PyData) (lo hi : Option Int) : List PyData := (ds.drop (HT.sIx ds.length 0 lo)).take (HT.sIx ds.length ds.length hi - HT.sIx ds.length 0 lo)
def sliceM (f : Ev → M PyData) (lo hi : Option Int) (ρ : Ev) : M PyData := do
  let d ← f ρ
  match d with
  | .list ds => pure (.list (cutD ds lo hi))
  | .tuple ds => pure (.tuple (cutD ds lo hi))
  | _ => M.no
theorem AtAll.cut {G : Hp} {xs : List V} {ds : List PyData} (h : AtAll G xs ds) (lo hi : Option Int) : AtAll G (cutV xs lo hi) (cutD ds lo hi) := by
  unfold cutV cutD
  rw [h.len]
  exact (h.drop _).take _
abbrev rSlD (K : PySem.W.Frag) : V → Option Int → Option Int → Hp → VK → Prop := fun x lo hi H Q => rSlL K x lo hi H Q ∨ rSlA K x lo hi H Q
section
variable {e : Expr} {te : TE} {f : Ev → M PyData} {lo hi : Option Expr} {tl th : TO} {pos p2 : Pos}
theorem de_slice (l' h' : Option Int) (he : DE X κ E e te f) (hl : PO X lo tl) (hh : PO X hi th) (ql : ∀ σ H Q, Q l' H → tl σ H Q) (qh : ∀ σ H Q, Q h' H → th σ H Q) :
    DE X κ E (.Subscript e (.Slice lo hi none p2) pos) (tSl (rSlD X.K) te tl th) (sliceM f l' h') := by
  refine ⟨pe_slice (SlR.or sl_list sl_tupA) he.p hl hh, fun S G H ρ w σ Q env p => ?_⟩
  refine he.r S G H ρ w σ _ env (p.bind.imp fun d w1 G1 H1 x1 s1 h1 v av => ?_)
  refine ql _ _ _ (qh _ _ _ ?_)
  cases av with
  | @lst a xs ds ea ra => exact .inl ⟨a, xs, rfl, SqL.of (x1.sub _ _ ea), fun q hq => post_new h1 x1.sub s1 _ hq _ (At.lstN x1.sub hq (ra.cut _ _))⟩
  | @tup a xs ds ea ra =>
    refine .inr ⟨a, xs, rfl, SqT.of (x1.sub _ _ ea), fun z => ?_, fun _ q hq => post_new h1 x1.sub s1 _ hq _ (At.tupN x1.sub hq (ra.cut _ _))⟩
    have q := post_pure h1 x1.sub s1 (.ref a)
    refine q ?_
    have e1 : cutD ds l' h' = ds := by
      unfold cutD
      rw [ra.len] at z
      rw [z.1, z.2]
      simp
    rw [e1]
    exact .tup ea ra
  | _ => exact h1.elim
theorem po_c {i : Int} {j : Nat} {p : Pos} : PO X (some (.Constant (.int i) j p)) (tPart (tC (.int i))) := po_some pe_int
theorem pq_c {i : Int} : ∀ (σ : L2.St) (H : Hp) (Q : Option Int → Hp → Prop), Q (some i) H → tPart (tC (.int i)) σ H Q := fun _ _ _ q => ⟨i, rfl, q⟩
theorem pq_n : ∀ (σ : L2.St) (H : Hp) (Q : Option Int → Hp → Prop), Q none H → tNoPart σ H Q := fun _ _ _ q => q
end
end
end Wh

namespace Wh
open PySem PySem.Spec PyProof.Rows L2

section
variable {X : Cx} {κ : Cl → Addr} {E : XK}
/-! ### len, tuple, list, int -/
def one1 (g : PyData → M PyData) : List PyData → M PyData
  | [d] => g d
  | _ => M.no
theorem one_arg {G : Hp} {vs : List V} {d : PyData} (h : AtAll G vs [d]) : ∃ v, vs = [v] ∧ At G v d := by
  cases h with
  | cons a r => cases r; exact ⟨_, rfl, a⟩
theorem rd_one {r : List V → Hp → VK → Prop} {g : PyData → M PyData} (h : ∀ S G H w v d Q, Sub G H → StAt S G H w → At G v d → PostW κ S G H E (g d w) (kV Q) → r [v] H Q) : RdC κ E r (one1 g) := by
  intro S G H w vs ds Q k s av p
  match ds, av, p with
  | [d], av, p =>
    obtain ⟨v, rfl, a⟩ := one_arg av
    exact h S G H w v d Q k s a p
  | [], av, p => exact p.elim
  | _ :: _ :: _, av, p => exact p.elim
def len1 : PyData → M PyData
  | .list ds => pure (.int (ds.length : Nat))
  | .tuple ds => pure (.int (ds.length : Nat))
  | .dict kvs => pure (.int (kvs.length : Nat))
  | _ => M.no
abbrev lenD : List PyData → M PyData := one1 len1
def rLenK : List V → Hp → VK → Prop := fun xs H Q => ∃ a es, xs = [.ref a] ∧ H a = some (dkO a es) ∧ es.size ≤ sizeLine ∧ (a == sysModules) = false ∧ Q (.int (es.size : Nat)) H
theorem dkO_at {pins : List (Addr × Obj)} {σ : L2.St} {H : Hp} {s : Shared} {a : Addr} {es : Array DictEntry} (I : Inv X pins σ H s) (h : H a = some (dkO a es)) : ∃ ep, s.heap.DictRaw a es ep := by
  have z : ObjOk X.prog X.w H s.heap a (.ext fun h => ∃ o ep, h.get? a = some o ∧ o.ExactDict ∧ o.data = .dict es ep) := I.hok a _ h
  obtain ⟨⟨o, ep, h1, h2, h3⟩, _⟩ := z
  exact ⟨ep, o, h1, h2, h3⟩
theorem call_len_dk : CallR X (.builtin "len") rLenK := by
  intro pins s σ H xs us Q I r h
  obtain ⟨a, es, rfl, hd, hz, hn, q⟩ := h
  obtain ⟨u, rfl, rx⟩ := vals1 r
  obtain rfl : u = .ref a := rx
  obtain ⟨ep, hr⟩ := dkO_at I hd
  refine PyProof.Rows.call_len_slot (n := es.size) hr.typeIs F.slot_dict_len (fun Q' hq => call_len_raw hn hr hq) (by omega) (by rw [sizeLine_eq] at hz; omega) ?_
  exact ⟨.int ((es.size : Nat) : Int), H, I.tok _, ⟨_, rfl⟩, q⟩
abbrev rLenD (K : PySem.W.Frag) : List V → Hp → VK → Prop := fun xs H Q => (∃ p ys, xs = [.ref p] ∧ (SqL K H p ys ∨ SqT K H p ys) ∧ Q (.int ys.length) H) ∨ rLenK xs H Q
theorem call_lenD : CallR X (.builtin "len") (rLenD X.K) := CallR.or call_len_seq call_len_dk
theorem rd_lenD {K : PySem.W.Frag} : RdC κ E (rLenD K) lenD := by
  refine rd_one fun S G H w v d Q k s a h => ?_
  · skip
    cases a with
    | @lst p xs ds e r => exact .inl ⟨p, xs, rfl, .inl (SqL.of (k _ _ e)), by rw [r.len]; exact post_pure h k s _ (.int _)⟩
    | @tup p xs ds e r => exact .inl ⟨p, xs, rfl, .inr (SqT.of (k _ _ e)), by rw [r.len]; exact post_pure h k s _ (.int _)⟩
    | @dic p es ks ds e q z r =>
      refine .inr ⟨p, es, rfl, k _ _ e, z.1, z.2, ?_⟩
      have e1 : es.size = (ds.map fun d => (d, PyData.bool true)).length := by
        have q1 := congrArg List.length q
        have q2 := r.len
        rw [List.length_map, List.length_map, Array.length_toList] at q1
        rw [List.length_map] at q2 ⊢
        omega
      rw [e1]
      exact post_pure h k s _ (.int _)
    | _ => exact h.elim
def tuple1 : PyData → M PyData
  | .list ds => pure (.tuple ds)
  | _ => M.no
abbrev tupleD : List PyData → M PyData := one1 tuple1
theorem rd_tupleD {K : PySem.W.Frag} : RdC κ E (fun xs H Q => ∃ p ys, xs = [.ref p] ∧ ((SqL K H p ys ∧ ∀ l, H l = none → Q (.ref l) (upd H l (.tup ys))) ∨ (SqT K H p ys ∧ Q (.ref p) H))) tupleD := by
  refine rd_one fun S G H w v d Q k s a h => ?_
  · skip
    cases a with
    | @lst p xs ds e r => exact ⟨p, xs, rfl, .inl ⟨SqL.of (k _ _ e), fun l hl => post_new h k s _ hl _ (At.tupN k hl r)⟩⟩
    | _ => exact h.elim
def list1 : PyData → M PyData
  | .list ds => pure (.list ds)
  | .tuple ds => pure (.list ds)
  | _ => M.no
abbrev listD : List PyData → M PyData := one1 list1
theorem rd_listD {K : PySem.W.Frag} : RdC κ E (fun xs H Q => ∃ p ys, xs = [.ref p] ∧ (SqL K H p ys ∨ SqT K H p ys) ∧ ∀ l, H l = none → Q (.ref l) (upd H l (.lst ys))) listD := by
  refine rd_one fun S G H w v d Q k s a h => ?_
  · skip
    cases a with
    | @lst p xs ds e r => exact ⟨p, xs, rfl, .inl (SqL.of (k _ _ e)), fun l hl => post_new h k s _ hl _ (At.lstN k hl r)⟩
    | @tup p xs ds e r => exact ⟨p, xs, rfl, .inr (SqT.of (k _ _ e)), fun l hl => post_new h k s _ hl _ (At.lstN k hl r)⟩
    | _ => exact h.elim
def int1 : PyData → M PyData
  | .int i => pure (.int i)
  | _ => M.no
abbrev intC : List PyData → M PyData := one1 int1
theorem rd_intC : RdC κ E (fun xs H Q => (∃ i, xs = [.int i] ∧ Q (.int i) H) ∨ ∃ k, xs = [.bl k] ∧ Q (.int (if k then 1 else 0)) H) intC := by
  refine rd_one fun S G H w v d Q k s a h => ?_
  · skip
    cases a with
    | int i => exact .inl ⟨i, rfl, post_pure h k s _ (.int _)⟩
    | _ => exact h.elim

/-! ### max, min of a tuple of ints -/
def intsOf : List PyData → Option (List Int)
  | [] => some []
  | .int i :: r => (intsOf r).map (i :: ·)
  | _ => none
theorem intsOf_eq : ∀ {ds : List PyData} {ns : List Int}, intsOf ds = some ns → ds = ns.map .int
  | [], ns, h => by
    cases h
    rfl
  | .int i :: r, ns, h => by
    obtain ⟨ms, h1, h2⟩ := Option.map_eq_some_iff.mp (show (intsOf r).map (i :: ·) = some ns from h)
    subst h2
    rw [intsOf_eq h1]
    rfl
theorem intsOf_map : ∀ ns : List Int, intsOf (ns.map .int) = some ns
  | [] => rfl
  | n :: ns => by
    show (intsOf (ns.map .int)).map (n :: ·) = _
    rw [intsOf_map ns]
    rfl
def ext1 (f : Int → Int → Int) : PyData → M PyData
  | .tuple ds => match intsOf ds with
    | some (n :: ns) => pure (.int (ns.foldl f n))
    | _ => M.no
  | _ => M.no
abbrev extD (f : Int → Int → Int) : List PyData → M PyData := one1 (ext1 f)
abbrev maxD : List PyData → M PyData := extD max
abbrev minD : List PyData → M PyData := extD min
def rExt (f : Int → Int → Int) (K : PySem.W.Frag) : List V → Hp → VK → Prop := fun vs H Q => ∃ (a : Addr) (n : Int) (ns : List Int), vs = [V.ref a] ∧ SqT K H a ((n :: ns).map V.int) ∧ Q (.int (ns.foldl f n)) H
theorem ints_read {h : Heap} : ∀ {ns : List Int} {us : List Value}, Vals (ns.map V.int) us → ReadsAll h us (ns.map .int) []
  | [], us, r => by
    have r' : Vals [] us := r
    cases r'
    exact .nil
  | n :: ns, us, r => by
    have r' : Vals (V.int n :: ns.map V.int) us := r
    cases r' with
    | cons a t =>
      obtain ⟨tk, rfl⟩ := a
      exact .cons (Reads.int n tk) (ints_read t)
theorem ints_depth : ∀ ns : List Int, PyData.depthAll (ns.map .int) = 0 := PySem.W.depth_ints
theorem ints_alike (ns : List Int) : PySem.W.AlikeAll (ns.map PyData.int) := by
  refine ⟨fun x hx y hy => ?_, fun x hx => ?_⟩
  · obtain ⟨i, _, rfl⟩ := List.mem_map.mp hx
    obtain ⟨j, _, rfl⟩ := List.mem_map.mp hy
    simp [PySem.W.alike]
  · obtain ⟨i, _, rfl⟩ := List.mem_map.mp hx
    exact fun z => nomatch z
theorem reads_int {h : Heap} {v : Value} {n : Int} {bs : List Addr} (r : Reads h v (.int n) bs) : ∃ t, v = .int n t := by
  cases r
  exact ⟨_, rfl⟩
theorem call_maxT (hc : X.calm = true) (hu : X.A.units + 64 < cLine) : CallR X (.builtin "max") (rExt max X.K) := by
  intro pins s σ H xs us Q I r h
  obtain ⟨a, n, ns, rfl, hT, q⟩ := h
  obtain ⟨u, rfl, rx⟩ := vals1 r
  obtain rfl : u = .ref a := rx
  obtain ⟨its, rv, p, hz⟩ := I.tuple hT
  refine PySem.W.max_tuple_data (vs := its.toArray) (x := .int n) (xs := ns.map .int) (I.ok.hd hc) (show s.heap.IsTuple a its.toArray from p) (ints_read (ns := n :: ns) rv) (ints_alike (n :: ns)) ?_ fun i v h' tk bs hv hr hk => ?_
  · have e := ints_depth (n :: ns)
    show X.A.units + 1 + PyData.depthAll ((n :: ns).map .int) < cLine
    omega
  · rw [PySem.W.maxD_ints] at hr
    obtain ⟨t, rfl⟩ := reads_int hr
    exact ⟨.int (ns.foldl max n), H, I.kept hk, ⟨_, rfl⟩, q⟩
theorem call_minT (hc : X.calm = true) (hu : X.A.units + 64 < cLine) : CallR X (.builtin "min") (rExt min X.K) := by
  intro pins s σ H xs us Q I r h
  obtain ⟨a, n, ns, rfl, hT, q⟩ := h
  obtain ⟨u, rfl, rx⟩ := vals1 r
  obtain rfl : u = .ref a := rx
  obtain ⟨its, rv, p, hz⟩ := I.tuple hT
  refine PySem.W.min_tuple_data (vs := its.toArray) (x := .int n) (xs := ns.map .int) (I.ok.hd hc) (show s.heap.IsTuple a its.toArray from p) (ints_read (ns := n :: ns) rv) (ints_alike (n :: ns)) ?_ fun i v h' tk bs hv hr hk => ?_
  · have e := ints_depth (n :: ns)
    show X.A.units + 1 + PyData.depthAll ((n :: ns).map .int) < cLine
    omega
  · rw [PySem.W.minD_ints] at hr
    obtain ⟨t, rfl⟩ := reads_int hr
    exact ⟨.int (ns.foldl min n), H, I.kept hk, ⟨_, rfl⟩, q⟩
theorem rd_extD {K : PySem.W.Frag} {f : Int → Int → Int} : RdC κ E (rExt f K) (extD f) := by
  refine rd_one fun S G H w v d Q k s a h => ?_
  · skip
    cases a with
    | @tup p xs ds e r =>
      have h' : PostW κ S G H E ((match intsOf ds with | some (n :: ns) => pure (.int (ns.foldl f n)) | _ => M.no : M PyData) w) (kV Q) := h
      cases q : intsOf ds with
      | none => rw [q] at h'; exact h'.elim
      | some l =>
        rw [q] at h'
        cases l with
        | nil => exact h'.elim
        | cons n ns =>
          have e2 := intsOf_eq q
          subst e2
          have e3 := AtAll.ints r
          subst e3
          exact ⟨p, n, ns, rfl, SqT.of (k _ _ e), post_pure h' k s _ (.int _)⟩
    | _ => exact h.elim

/-! ### repr -/
def repr1 : PyData → M PyData
  | .none => pure (.str "None")
  | .list ds => if SeqAt.shaped (.list ds) = true ∧ PyData.showable (.list ds) = true ∧ (PyData.shown (.list ds)).length ≤ sizeLine then pure (.str (PyData.shown (.list ds))) else M.no
  | .tuple ds => if SeqAt.shaped (.tuple ds) = true ∧ PyData.showable (.tuple ds) = true ∧ (PyData.shown (.tuple ds)).length ≤ sizeLine then pure (.str (PyData.shown (.tuple ds))) else M.no
  | _ => M.no
abbrev reprD : List PyData → M PyData := one1 repr1
def rRepr (K : PySem.W.Frag) : List V → Hp → VK → Prop := fun xs H Q => (xs = [.non] ∧ Q (.str "None") H) ∨ ∃ a d, xs = [.ref a] ∧ Dp K H (.ref a) d ∧ SeqAt.shaped d = true ∧ PyData.showable d = true ∧ d.shown.length ≤ sizeLine ∧ Q (.str d.shown) H
theorem call_reprD (hg : X.A.guards = some []) (hu : X.A.units + 65 < cLine) : CallR X (.builtin "repr") (rRepr X.K) := by
  intro pins s σ H xs us Q I r h
  rcases h with ⟨rfl, q⟩ | ⟨a, d, rfl, hd, h1, h2, h3, q⟩
  · obtain ⟨u, rfl, rx⟩ := vals1 r
    obtain rfl : u = .none := rx
    exact PySem.P.repr_of_none ⟨.str _, H, I.tok _, ⟨_, rfl⟩, q⟩
  · obtain ⟨u, rfl, rx⟩ := vals1 r
    obtain rfl : u = .ref a := rx
    obtain ⟨as, rr⟩ := Dp.reads I d _ _ hd rfl
    have hz := depth_of_shaped h1
    exact repr_of_reads' rr h2 (PyData.noDict_hsm (noDict_of_shaped h1)) hg (by omega) (fun _ _ e => e) (fun h' u tk hk => ⟨.str _, H, I.kept hk, ⟨_, rfl⟩, q⟩) h3
theorem rd_reprD {K : PySem.W.Frag} : RdC κ E (rRepr K) reprD := by
  refine rd_one fun S G H w v d Q k s a h => ?_
  · skip
    cases d with
    | none => cases a; exact .inl ⟨rfl, post_pure h k s _ (.str _)⟩
    | list ds =>
      obtain ⟨⟨h1, h2, h3⟩, h4⟩ := post_if h
      have dp := At.dp' (K := K) k (noDict_of_shaped h1) a
      cases a with
      | @lst p xs ds e r => exact .inr ⟨p, _, rfl, dp, h1, h2, h3, post_pure h4 k s _ (.str _)⟩
    | tuple ds =>
      obtain ⟨⟨h1, h2, h3⟩, h4⟩ := post_if h
      have dp := At.dp' (K := K) k (noDict_of_shaped h1) a
      cases a with
      | @tup p xs ds e r => exact .inr ⟨p, _, rfl, dp, h1, h2, h3, post_pure h4 k s _ (.str _)⟩
    | _ => exact h.elim

/-! ### isinstance with tuple, int, bool -/
def isiB : String → PyData → Option Bool
  | "tuple", .tuple _ => some true
  | "tuple", .dict _ => none
  | "tuple", _ => some false
  | "int", .int _ => some true
  | "int", .bool _ => some true
  | "int", .dict _ => none
  | "int", _ => some false
  | "bool", .bool _ => some true
  | "bool", .dict _ => none
  | "bool", _ => some false
  | _, _ => none
def isiM (n : String) (f : Ev → M PyData) (ρ : Ev) : M PyData := do
  let d ← f ρ
  match isiB n d with
  | some b => pure (.bool b)
  | none => M.no
def tyN : PyData → String
  | .none => "NoneType"
  | .bool _ => "bool"
  | .int _ => "int"
  | .str _ => "str"
  | .list _ => "list"
  | .tuple _ => "tuple"
  | .dict _ => "dict"
theorem At.ty {K : PySem.W.Frag} {G H : Hp} (k : Sub G H) {v : V} {d : PyData} (h : At G v d) (n : ∀ kvs, d ≠ .dict kvs) : TyX K H v (.type (tyN d)) := by
  cases h with
  | non => exact .base .non
  | bl b => exact .base (.bl b)
  | int i => exact .base (.int i)
  | str x => exact .base (.str x)
  | lst e r => exact .base (.lst (k _ _ e))
  | tup e r => exact .base (.tup (k _ _ e))
  | dic e q z r => exact absurd rfl (n _)
theorem kit_tuple {d : PyData} {b : Bool} (h : isiB "tuple" d = some b) : kitB (tyN d) "tuple" = some b := by
  cases d <;> cases h <;> first | exact (show kitB "NoneType" "tuple" = some false by decide +kernel) | exact (show kitB "bool" "tuple" = some false by decide +kernel) | exact (show kitB "int" "tuple" = some false by decide +kernel) | exact (show kitB "str" "tuple" = some false by decide +kernel) | exact (show kitB "list" "tuple" = some false by decide +kernel) | exact (show kitB "tuple" "tuple" = some true by decide +kernel)
theorem kit_int {d : PyData} {b : Bool} (h : isiB "int" d = some b) : kitB (tyN d) "int" = some b := by
  cases d <;> cases h <;> first | exact (show kitB "NoneType" "int" = some false by decide +kernel) | exact (show kitB "bool" "int" = some true by decide +kernel) | exact (show kitB "int" "int" = some true by decide +kernel) | exact (show kitB "str" "int" = some false by decide +kernel) | exact (show kitB "list" "int" = some false by decide +kernel) | exact (show kitB "tuple" "int" = some false by decide +kernel)
theorem kit_bool {d : PyData} {b : Bool} (h : isiB "bool" d = some b) : kitB (tyN d) "bool" = some b := by
  cases d <;> cases h <;> first | exact (show kitB "NoneType" "bool" = some false by decide +kernel) | exact (show kitB "bool" "bool" = some true by decide +kernel) | exact (show kitB "int" "bool" = some false by decide +kernel) | exact (show kitB "str" "bool" = some false by decide +kernel) | exact (show kitB "list" "bool" = some false by decide +kernel) | exact (show kitB "tuple" "bool" = some false by decide +kernel)
theorem isiB_nd {n : String} {d : PyData} {b : Bool} (hn : n = "tuple" ∨ n = "int" ∨ n = "bool") (h : isiB n d = some b) : ∀ kvs, d ≠ .dict kvs := by
  intro kvs e
  subst e
  rcases hn with rfl | rfl | rfl <;> cases h
theorem rd_isi {K : PySem.W.Frag} {te : TE} {f : Ev → M PyData} {n : String} (hn : n = "tuple" ∨ n = "int" ∨ n = "bool") (h : RdE κ E te f) : RdE κ E (tCB (rIsi K) (tCons te (tCons (tC (.ty n)) tNil))) (isiM n f) := by
  intro S G H ρ w σ Q env p
  refine h S G H ρ w σ _ env (p.bind.imp fun d w1 G1 H1 x1 s1 h1 v av => ?_)
  have h' : PostW κ S G1 H1 E ((match isiB n d with | some b => pure (.bool b) | none => M.no : M PyData) w1) (kV Q) := h1
  cases q : isiB n d with
  | none => rw [q] at h'; exact h'.elim
  | some b =>
    rw [q] at h'
    have kb : kitB (tyN d) n = some b := by
      rcases hn with rfl | rfl | rfl
      · exact kit_tuple q
      · exact kit_int q
      · exact kit_bool q
    exact ⟨v, .ty n, _, _, b, rfl, .ty n, At.ty x1.sub av (isiB_nd hn q), kit_ty kb, post_pure h' x1.sub s1 _ (.bl _)⟩
theorem de_isi {e : Expr} {te : TE} {f : Ev → M PyData} {n : String} {x : Str} {pf px pos : Pos} (hn : n = "tuple" ∨ n = "int" ∨ n = "bool") (he : DE X κ E e te f) (hg : Gl X "isinstance") (hm : X.mg "isinstance" = none)
    (hgx : Gl X x) (hmx : X.mg x = none) (hvx : bootBuiltins x = some (.type n)) (hnx : x ≠ "__name__" := by decide) (hdx : (x == ("__debug__" : Str)) = false := by decide)
    (s1 : starEach [e, .Name x px] X.env = (false, eval e X.env) :: starEach [.Name x px] X.env := by rfl) (s2 : starEach [.Name x px] X.env = (false, eval (.Name x px) X.env) :: starEach [] X.env := by rfl) (hpl : (backTo pos (starEach [.Name x px] X.env)).any (·.1) = false := by rfl) :
    DE X κ E (.Call (.Name "isinstance" pf) [e, .Name x px] [] pos) (tCB (rIsi X.K) (tCons te (tCons (tC (.ty n)) tNil))) (isiM n f) :=
  ⟨pe_callB call_isi hg hm (by decide +kernel) (pa_cons he.p (pa_cons (pe_bltn (v := .ty n) hgx hmx hvx rfl hnx hdx) pa_nil s2) s1) (by decide) (by decide) s1 hpl, rd_isi hn he.r⟩
end
end Wh

namespace Wh
open PySem PySem.Spec PyProof.Rows L2

abbrev VD := V × PyData
abbrev sortVD (l : List VD) : List VD := l.mergeSort (PySem.W.dataLe false Prod.snd)
abbrev leD' (a b : PyData) : Bool := PySem.W.dataLe false (fun d : PyData => d) a b
abbrev sortD (l : List PyData) : List PyData := l.mergeSort leD'
theorem sortVD_snd (l : List VD) : (sortVD l).map Prod.snd = sortD (l.map Prod.snd) := by
  unfold sortVD sortD
  rw [List.map_mergeSort]
  intro a _ b _
  rfl
theorem AtAll.sorted {G : Hp} {xs : List V} {ds : List PyData} (h : AtAll G xs ds) : AtAll G ((sortVD (xs.zip ds)).map Prod.fst) (sortD ds) := by
  have e : ∀ {xs : List V} {ds : List PyData}, AtAll G xs ds → (xs.zip ds).map Prod.snd = ds ∧ ∀ p ∈ xs.zip ds, At G p.1 p.2 := by
    intro xs ds h
    induction xs generalizing ds with
    | nil => cases h; exact ⟨rfl, fun p hp => nomatch hp⟩
    | cons x xs ih =>
      cases h with
      | cons a r =>
        obtain ⟨e1, e2⟩ := ih r
        refine ⟨by rw [List.zip_cons_cons, List.map_cons, e1], fun p hp => ?_⟩
        rw [List.zip_cons_cons] at hp
        rcases List.mem_cons.mp hp with q | q
        · rw [q]; exact a
        · exact e2 p q
  obtain ⟨e1, e2⟩ := e h
  have e3 := sortVD_snd (xs.zip ds)
  rw [e1] at e3
  rw [← e3]
  have e4 : ∀ p ∈ sortVD (xs.zip ds), At G p.1 p.2 := fun p hp => e2 p (List.mem_mergeSort.mp hp)
  generalize sortVD (xs.zip ds) = l at e4
  clear e3
  induction l with
  | nil => exact .nil
  | cons p l ih => exact .cons (e4 p (List.mem_cons_self ..)) (ih fun q hq => e4 q (List.mem_cons_of_mem _ hq))
def okB (ds : List PyData) : Bool := (ds.all fun d => ds.all fun e => PySem.W.alike d e) && (ds.all fun d => match d with | .tuple (_ :: _) => SeqAt.shaped d | _ => false)
theorem okB_alike {ds : List PyData} (h : okB ds = true) : PySem.W.AllAlike ds := fun d hd e he => by
  have h1 := (Bool.and_eq_true_iff.mp h).1
  exact List.all_eq_true.mp (List.all_eq_true.mp h1 d hd) e he
theorem okB_tup {ds : List PyData} (h : okB ds = true) : ∀ d ∈ ds, (∃ x r, d = .tuple (x :: r)) ∧ SeqAt.shaped d = true := fun d hd => by
  have h1 := List.all_eq_true.mp (Bool.and_eq_true_iff.mp h).2 d hd
  cases d with
  | tuple l =>
    cases l with
    | nil => cases h1
    | cons x r => exact ⟨⟨x, r, rfl⟩, h1⟩
  | _ => cases h1

section
variable {X : Cx} {κ : Cl → Addr} {E : XK} {pins : List (Addr × Obj)} {σ : L2.St} {H : Hp} {s : Shared}
theorem each_of (I : Inv X pins σ H s) : ∀ {xs : List V} {ds : List PyData} {its : List Value}, DpAll X.K H xs ds → Vals xs its →
    PySem.W.EachIs (fun v (b : VD) => RelV b.1 v ∧ ∃ as, Reads s.heap v b.2 as) its (xs.zip ds)
  | _, _, _, .nil, .nil => .nil
  | _, _, _, .cons d r, .cons a t => .cons ⟨a, Dp.reads I _ _ _ d a⟩ (each_of I r t)
theorem vals_of_each : ∀ {out : List Value} {l : List VD}, PySem.W.EachIs (fun v (b : VD) => RelV b.1 v) out l → Vals (l.map Prod.fst) out
  | _, _, .nil => .nil
  | _, _, .cons a t => .cons a (vals_of_each t)
theorem zip_snd : ∀ {xs : List V} {ds : List PyData}, xs.length = ds.length → (xs.zip ds).map Prod.snd = ds
  | [], [], _ => rfl
  | x :: xs, d :: ds, h => by
    rw [List.zip_cons_cons, List.map_cons, zip_snd (by simpa using h)]
  | [], _ :: _, h => by simp at h
  | _ :: _, [], h => by simp at h
theorem DpAll.len {K : PySem.W.Frag} {H : Hp} : ∀ {xs : List V} {ds : List PyData}, DpAll K H xs ds → xs.length = ds.length
  | _, _, .nil => rfl
  | _, _, .cons _ r => congrArg (· + 1) (DpAll.len r)

def rSortL (K : PySem.W.Frag) : List V → Hp → VK → Prop := fun vs H Q => ∃ (a : Addr) (xs : List V) (ds : List PyData), vs = [V.ref a] ∧ SqL K H a xs ∧ DpAll K H xs ds ∧ okB ds = true ∧ ds.length ≤ sizeLine ∧
  ∀ p, H p = none → Q (.ref p) (upd H p (.lst ((sortVD (xs.zip ds)).map Prod.fst)))
theorem cr_sortL (hu : X.A.units + 70 < cLine) : CallR X (.builtin "sorted") (rSortL X.K) := by
  intro pins s σ H vs us Q I r h
  obtain ⟨a, xs, ds, rfl, hs, hd, hok, hz, q⟩ := h
  obtain ⟨u, rfl, rx⟩ := vals1 r
  obtain rfl : u = .ref a := rx
  obtain ⟨its, rv, hl, hn⟩ := I.list hs
  have hlen := DpAll.len hd
  have es := zip_snd hlen
  have each := each_of I hd rv
  have hbl : (xs.zip ds).length = ds.length := by rw [List.length_zip, hlen, Nat.min_self]
  refine PySem.W.sorted_data (R := fun v (b : VD) => RelV b.1 v) (enc := Prod.snd) (bs := xs.zip ds) (vs := its) hl.isList (each.mono fun _ _ z => z.1) (each.mono fun _ _ z => z.2) (by rw [es]; exact okB_alike hok)
    (by rw [es]; exact .inl fun d hd => (okB_tup hok d hd).1) (by rw [hbl]; exact hz) (fun b hb => ?_) fun out ho eo => ?_
  · have hm : b.2 ∈ ds := by rw [← es]; exact List.mem_map.mpr ⟨b, hb, rfl⟩
    have := depth_of_shaped (okB_tup hok b.2 hm).2
    omega
  · obtain ⟨ep, he'⟩ := PyProof.Rows.sortedAll_at s.heap its out.toArray
    have hsz : s.heap.objs.size ≤ s.heap.objs.size + 1 := Nat.le_succ _
    refine ⟨.ref (s.heap.objs.size + 1), _, I.laid (t' := s.toks) (o := .lst ((sortVD (xs.zip ds)).map Prod.fst)) (fun b o e => PyProof.Rows.sortedAll_old e) hsz ?_, rfl, q _ (I.hok.fresh hsz)⟩
    refine ⟨?_, out, ep, vals_of_each eo, he'⟩
    rw [List.length_map]
    show (List.mergeSort _ _).length ≤ _
    rw [List.length_mergeSort, hbl]
    exact hz

/-- sorted of a comprehension's dict -/
def rSortK (K : PySem.W.Frag) : List V → Hp → VK → Prop := fun vs H Q => ∃ (a : Addr) (es : Array DictEntry) (ks : List Addr) (ds : List PyData), vs = [V.ref a] ∧ H a = some (dkO a es) ∧ (es.size ≤ sizeLine ∧ (a == sysModules) = false) ∧
  es.toList.map (·.key) = ks.map Value.ref ∧ DpAll K H (ks.map V.ref) ds ∧ okB ds = true ∧ ∀ p, H p = none → Q (.ref p) (upd H p (.lst ((sortVD ((ks.map V.ref).zip ds)).map Prod.fst)))
theorem vals_refs : ∀ ks : List Addr, Vals (ks.map V.ref) (ks.map Value.ref)
  | [] => .nil
  | k :: ks => .cons rfl (vals_refs ks)
theorem cr_sortK (hc : X.calm = true) (hu : X.A.units + 70 < cLine) : CallR X (.builtin "sorted") (rSortK X.K) := by
  intro pins s σ H vs us Q I r h
  obtain ⟨a, es, ks, ds, rfl, ha, ⟨hz, hn⟩, hk, hd, hok, q⟩ := h
  obtain ⟨u, rfl, rx⟩ := vals1 r
  obtain rfl : u = .ref a := rx
  obtain ⟨ep, hr⟩ := dkO_at I ha
  refine Calls.call_function_entry PyProof.Rows.kind_sorted PyProof.Rows.plain_sorted PyProof.Rows.entry_sorted (PyProof.Rows.args_sorted1 _) ?_
  unfold Builtin.«sorted»
  refine wpAny_bind (m := checkCount "sorted" 1 1 _) (wpAny_pure ?_)
  refine wpAny_bind (PySem.W.kdu_collect (A := X.A.in1) (KdlSrc.rawDict (es := es) (ep := ep) hn) (I.ok.hd hc) hr hz fun h' tk acc hkept hacc => ?_)
  have hacc2 : acc.toList = ks.map Value.ref := by
    rw [← hk]
    apply List.ext_getElem?
    intro j
    rw [List.getElem?_map]
    by_cases hj : j < es.size
    · have hja : j < acc.size := by rw [hacc.1]; exact hj
      obtain ⟨hi, e⟩ := hacc.2 j acc[j] (by simp [hja])
      have e1 : acc.toList[j]? = some acc[j] := by simp [hja]
      have e2 : es.toList[j]? = some es[j] := by simp [hj]
      rw [e1, e2, e]
      rfl
    · have e1 : acc.toList[j]? = none := List.getElem?_eq_none (by rw [Array.length_toList, hacc.1]; omega)
      have e2 : es.toList[j]? = none := List.getElem?_eq_none (by rw [Array.length_toList]; omega)
      rw [e1, e2]
      rfl
  rw [hacc2]
  have hlen := DpAll.len hd
  rw [List.length_map] at hlen
  have hkl : ks.length = es.size := by
    have e := congrArg List.length hk
    rw [List.length_map, List.length_map, Array.length_toList] at e
    exact e.symm
  have I1 : Inv X pins σ H { s with heap := h', toks := tk } := I.kept hkept
  refine wpAny_bind (wpAny_newList ?_ (by rw [List.length_map]; omega))
  have es2 : ((ks.map V.ref).zip ds).map Prod.snd = ds := zip_snd (by rw [List.length_map]; exact hlen)
  have hbl : ((ks.map V.ref).zip ds).length = ds.length := by rw [List.length_zip, List.length_map, hlen, Nat.min_self]
  have each := each_of I1 hd (vals_refs ks)
  have hoL : (h'.push (seqObj "list" (ks.map Value.ref).toArray 0)).get? h'.objs.size = some (seqObj "list" (ks.map Value.ref).toArray 0) := Heap.get?_push_size _ rfl
  refine wpAny_bind (wpAny_holding ?_)
  refine PySem.W.list_sort_data (s := { s with heap := h'.push (seqObj "list" (ks.map Value.ref).toArray 0), toks := tk }) (R := fun v (b : VD) => RelV b.1 v) (enc := Prod.snd) (bs := (ks.map V.ref).zip ds) (vs := ks.map Value.ref) hoL (each.mono fun _ _ z => z.1) (each.mono fun v b z => ?_)
    (by rw [es2]; exact okB_alike hok) (by rw [es2]; exact .inl fun d hd => (okB_tup hok d hd).1) (by rw [hbl]; omega) (fun b hb => ?_) fun out ho eo => ?_
  · obtain ⟨_, as, hra⟩ := z
    refine ⟨as, PyProof.Rows.Reads.keeps (fun _ _ e => Heap.get?_push_of_some _ e) hra, fun hm => ?_⟩
    obtain ⟨o, e⟩ := PyProof.On.reads_mem_get hra _ hm
    exact absurd (Heap.lt_size e) (Nat.lt_irrefl _)
  · have hm : b.2 ∈ ds := by rw [← es2]; exact List.mem_map.mpr ⟨b, hb, rfl⟩
    have := depth_of_shaped (okB_tup hok b.2 hm).2
    show X.A.units + 1 + 1 + b.2.depth < cLine
    omega
  · obtain ⟨e', he'⟩ := PyProof.Rows.sortedHeap_at (vs := ks.map Value.ref) (out := out.toArray) hoL
    refine wpAny_pure ⟨_, rfl, .ref h'.objs.size, upd H h'.objs.size (.lst ((sortVD ((ks.map V.ref).zip ds)).map Prod.fst)), I1.laid (t' := tk) (fun b u e => ?_) (Nat.le_refl _) ?_, rfl, q _ (I1.hok.fresh (Nat.le_refl _))⟩
    · have hb : b < h'.objs.size := Heap.lt_size e
      rw [PyProof.Rows.sortedHeap_old (Nat.ne_of_lt hb) (by rw [Heap.size_push]; exact Nat.lt_succ_of_lt hb)]
      exact Heap.get?_push_of_some _ e
    · refine ⟨?_, out, e', vals_of_each eo, he'⟩
      rw [List.length_map]
      show (List.mergeSort _ _).length ≤ _
      rw [List.length_mergeSort, hbl]
      omega
def sort1 : PyData → M PyData
  | .list ds => if okB ds = true ∧ ds.length ≤ sizeLine then pure (.list (sortD ds)) else M.no
  | .dict kvs => if okB (kvs.map Prod.fst) = true then pure (.list (sortD (kvs.map Prod.fst))) else M.no
  | _ => M.no
abbrev sortedD : List PyData → M PyData := one1 sort1
abbrev rSortD (K : PySem.W.Frag) : List V → Hp → VK → Prop := fun vs H Q => rSortL K vs H Q ∨ rSortK K vs H Q
theorem cr_sortD (hc : X.calm = true) (hu : X.A.units + 70 < cLine) : CallR X (.builtin "sorted") (rSortD X.K) := CallR.or (cr_sortL hu) (cr_sortK hc hu)
theorem okB_nd {ds : List PyData} (h : okB ds = true) : PyData.hasDictAll ds = false := by
  have h2 : ∀ d ∈ ds, PyData.hasDict d = false := fun d hd => noDict_of_shaped (okB_tup h d hd).2
  clear h
  induction ds with
  | nil => simp [PyData.hasDictAll]
  | cons d ds ih =>
    simp only [PyData.hasDictAll, h2 d (List.mem_cons_self ..), ih fun e he => h2 e (List.mem_cons_of_mem _ he), Bool.or_self]
theorem rd_sortD {K : PySem.W.Frag} : RdC κ E (rSortD K) sortedD := by
  refine rd_one fun S G H w v d Q k s a h => ?_
  cases a with
  | @lst p xs ds e r =>
    obtain ⟨⟨h1, h2⟩, h3⟩ := post_if h
    exact .inl ⟨p, xs, ds, rfl, SqL.of (k _ _ e), AtAll.dp k ds xs (okB_nd h1) r, h1, h2, fun l hl => post_new h3 k s _ hl _ (At.lstN k hl r.sorted)⟩
  | @dic p es ks ds e q z r =>
    have e1 : (ds.map fun d => (d, PyData.bool true)).map Prod.fst = ds := by rw [List.map_map]; exact List.map_id' ds
    have h' : PostW κ S G H E ((if okB ((ds.map fun d => (d, PyData.bool true)).map Prod.fst) = true then pure (.list (sortD ((ds.map fun d => (d, PyData.bool true)).map Prod.fst))) else M.no : M PyData) w) (kV Q) := h
    rw [e1] at h'
    obtain ⟨h1, h3⟩ := post_if h'
    exact .inr ⟨p, es, ks, ds, rfl, k _ _ e, z, q, AtAll.dp k ds _ (okB_nd h1) r, h1, fun l hl => post_new h3 k s _ hl _ (At.lstN k hl r.sorted)⟩
  | _ => exact h.elim
end
end Wh

namespace Wh
open PySem PySem.Spec PyProof.Rows L2

/-! ### splitting what is wanted, the base as it is -/
section
variable {κ : Cl → Addr} {S : Option SA} {G0 H0 G H : Hp} {E : XK} {w : LS}
theorem PostW.split {α β : Type} {m : M α} {f : α → M β} {k : β → LS → Hp → Hp → Prop} (h : PostW κ S G0 H0 E ((m >>= f) w) k) (x : Ext S G0 H0 G H) : PostW κ S G H E (m w) (fun a w' _ _ => PostW κ S G0 H0 E (f a w') k) := by
  have h' : PostW κ S G0 H0 E (M.bind m f w) k := h
  unfold M.bind at h'
  cases e : m w with
  | ok a w' =>
    rw [e] at h'
    exact fun _ _ _ _ => h'
  | er c d w' =>
    rw [e] at h'
    exact ErW.mono h' x
  | no =>
    rw [e] at h'
    exact h'
theorem SPost.split {α : Type} {D : Ends} {m : M α} {f : α → M Fl} (h : SPost κ S G0 H0 E D ((m >>= f) w)) (x : Ext S G0 H0 G H) : PostW κ S G H E (m w) (fun a w' _ _ => SPost κ S G0 H0 E D (f a w')) := by
  have h' : SPost κ S G0 H0 E D (M.bind m f w) := h
  unfold M.bind at h'
  cases e : m w with
  | ok a w' =>
    rw [e] at h'
    exact fun _ _ _ _ => h'
  | er c d w' =>
    rw [e] at h'
    exact ErW.mono h' x
  | no =>
    rw [e] at h'
    exact h'
theorem spost_if {D : Ends} {p : Prop} [Decidable p] {m : M Fl} (h : SPost κ S G0 H0 E D ((if p then m else M.no) w)) : p ∧ SPost κ S G0 H0 E D (m w) := by
  by_cases q : p
  · rw [if_pos q] at h
    exact ⟨q, h⟩
  · rw [if_neg q] at h
    exact h.elim
theorem Ext.freeze {D : Addr} {o : HO} (x : Ext S G0 H0 G H) (h0 : H0 D = none) (h : H D = some o) (hg : G D = none) : Ext S G0 H0 (upd G D o) H where
  sub := fun a u e => by
    by_cases q : a = D
    · subst q; rw [upd_same] at e; rw [h]; exact e
    · rw [upd_ne q] at e; exact x.sub a u e
  gg := fun a u e => by
    by_cases q : a = D
    · subst q
      have := x.gg _ _ e
      rw [hg] at this
      cases this
    · rw [upd_ne q]; exact x.gg a u e
  hh := x.hh
  hs := x.hs
  nw := fun a e => by
    by_cases q : a = D
    · subst q; exact absurd h0 e
    · rw [upd_ne q]; exact x.nw a e
theorem StAt.freeze {D : Addr} {o : HO} (s : StAt S G H w) (n : ¬ Mu S D) : StAt S (upd G D o) H w := by
  cases S with
  | none => exact True.intro
  | some a =>
    obtain ⟨h1, h2, h3, h4, h5, h6, h7⟩ := s
    have n1 : a.d ≠ D := fun e => n (.inl e.symm)
    have n2 : a.l ≠ D := fun e => n (.inr (.inl e.symm))
    have n3 : a.c ≠ D := fun e => n (.inr (.inr e.symm))
    exact ⟨h1, h2, h3, by rw [upd_ne n1]; exact h4, by rw [upd_ne n3]; exact h5, by rw [upd_ne n2]; exact h6, h7⟩
/-- a list of the def's own is written -/
theorem StAt.write {l : Addr} {o : HO} (s : StAt S G H w) (n : ¬ Mu S l) : StAt S G (upd H l o) w := by
  cases S with
  | none => exact True.intro
  | some a =>
    obtain ⟨h1, h2, h3, h4, h5, h6, h7⟩ := s
    have n1 : a.d ≠ l := fun e => n (.inl e.symm)
    have n2 : a.l ≠ l := fun e => n (.inr (.inl e.symm))
    have n3 : a.c ≠ l := fun e => n (.inr (.inr e.symm))
    exact ⟨by rw [upd_ne n1]; exact h1, by rw [upd_ne n3]; exact h2, by rw [upd_ne n2]; exact h3, h4, h5, h6, h7⟩
theorem Ext.write {l : Addr} {o : HO} (x : Ext S G0 H0 G H) (h0 : H0 l = none) (hg : G l = none) : Ext S G0 H0 G (upd H l o) where
  sub := fun a u e => by
    rw [upd_ne (ne_of_none e hg)]
    exact x.sub a u e
  gg := x.gg
  hh := fun a u e n => by
    rw [upd_ne (ne_of_none e h0)]
    exact x.hh a u e n
  hs := fun a e => by
    by_cases q : a = l
    · subst q; exact absurd h0 e
    · rw [upd_ne q]; exact x.hs a e
  nw := x.nw
end

/-! ### slots are set -/
section
variable {S : Option SA} {G0 H0 G H : Hp} {ρ : Ev} {σ : L2.St} {w : LS}
theorem get_set {α : Type} {l : List α} {i j : Nat} {x y : α} (h : (l.set i x)[j]? = some y) : (i = j ∧ y = x ∧ i < l.length) ∨ (i ≠ j ∧ l[j]? = some y) := by
  by_cases e : i = j
  · subst e
    by_cases hl : i < l.length
    · rw [List.getElem?_set_self hl] at h
      exact .inl ⟨rfl, (Option.some.inj h).symm, hl⟩
    · rw [List.getElem?_eq_none (by rw [List.length_set]; omega)] at h
      cases h
  · rw [List.getElem?_set_ne e] at h
    exact .inr ⟨e, h⟩
theorem Ent.set (e : Ent S ρ w σ G H) {i : Nat} {v : V} {d : PyData} (a : At G v d) : Ent S (ρ.set i (.fz d)) w (σ.set i (some v)) G H := by
  refine ⟨e.sub, by rw [List.length_set, List.length_set]; exact e.len, fun j s h => ?_, fun j1 j2 x y l h1 h2 h3 h4 => ?_, e.st⟩
  · rcases get_set h with ⟨rfl, rfl, hl⟩ | ⟨hne, h'⟩
    · exact ⟨some v, List.getElem?_set_self (by rw [← e.len]; exact hl), v, rfl, a⟩
    · obtain ⟨o, h1, h2⟩ := e.sl j s h'
      exact ⟨o, by rw [List.getElem?_set_ne hne]; exact h1, h2⟩
  · rcases get_set h1 with ⟨rfl, q, _⟩ | ⟨n1, h1'⟩
    · cases q
    · rcases get_set h2 with ⟨rfl, q, _⟩ | ⟨n2, h2'⟩
      · cases q
      · rw [List.getElem?_set_ne n1] at h3
        rw [List.getElem?_set_ne n2] at h4
        exact e.ap j1 j2 x y l h1' h2' h3 h4
theorem Bas.set (b : Bas S G0 H0 ρ σ G H) {i : Nat} {v : V} {d : PyData} : Bas S G0 H0 (ρ.set i (.fz d)) (σ.set i (some v)) G H := by
  refine ⟨b.ext, fun j x l h1 h2 => ?_⟩
  rcases get_set h1 with ⟨rfl, q, _⟩ | ⟨n1, h1'⟩
  · cases q
  · rw [List.getElem?_set_ne n1] at h2
    exact b.own j x l h1' h2
/-- a new list of the def's own -/
theorem Ent.setO (e : Ent S ρ w σ G H) {i : Nat} {p : Addr} {xs : List V} {ds : List PyData} (hp : H p = none) (a : AtAll G xs ds) : Ent S (ρ.set i (.ow ds)) w (σ.set i (some (.ref p))) G (upd H p (.lst xs)) := by
  have x := Ext.own (S := S) e.sub (.lst xs) hp
  have e' := e.ext x (e.st.own (.lst xs) hp)
  have fresh : ∀ (j : Nat) (y : List PyData), ρ[j]? = some (.ow y) → σ[j]? ≠ some (some (.ref p)) := fun j y h1 h2 => by
    obtain ⟨o, h3, l, zs, h4, h5, _⟩ := e.sl j _ h1
    rw [h3] at h2
    rw [h4] at h2
    have := Option.some.inj (Option.some.inj h2)
    injection this with this
    rw [this, hp] at h5
    cases h5
  refine ⟨e'.sub, by rw [List.length_set, List.length_set]; exact e.len, fun j s h => ?_, fun j1 j2 x1 y1 l h1 h2 h3 h4 => ?_, e'.st⟩
  · rcases get_set h with ⟨rfl, rfl, hl⟩ | ⟨hne, h'⟩
    · exact ⟨_, List.getElem?_set_self (by rw [← e.len]; exact hl), p, xs, rfl, upd_same, e.sub.new hp, a, e.st.mu hp⟩
    · obtain ⟨o, h1, h2⟩ := e'.sl j s h'
      exact ⟨o, by rw [List.getElem?_set_ne hne]; exact h1, h2⟩
  · rcases get_set h1 with ⟨rfl, _, hl1⟩ | ⟨n1, h1'⟩
    · rcases get_set h2 with ⟨rfl, _, _⟩ | ⟨n2, h2'⟩
      · rfl
      · rw [List.getElem?_set_self (by rw [← e.len]; exact hl1)] at h3
        cases h3
        rw [List.getElem?_set_ne n2] at h4
        exact absurd h4 (fresh j2 _ h2')
    · rcases get_set h2 with ⟨rfl, _, hl2⟩ | ⟨n2, h2'⟩
      · rw [List.getElem?_set_self (by rw [← e.len]; exact hl2)] at h4
        cases h4
        rw [List.getElem?_set_ne n1] at h3
        exact absurd h3 (fresh j1 _ h1')
      · rw [List.getElem?_set_ne n1] at h3
        rw [List.getElem?_set_ne n2] at h4
        exact e.ap j1 j2 _ _ l h1' h2' h3 h4
theorem Bas.setO (b : Bas S G0 H0 ρ σ G H) {i : Nat} {p : Addr} {xs : List V} {ds : List PyData} (hp : H p = none) (k : Sub G H) : Bas S G0 H0 (ρ.set i (.ow ds)) (σ.set i (some (.ref p))) G (upd H p (.lst xs)) := by
  have h0 : H0 p = none := by
    cases q : H0 p with
    | none => rfl
    | some o => exact absurd hp (b.ext.hs p (not_none q))
  refine ⟨b.ext.trans (Ext.own k _ hp), fun j x l h1 h2 => ?_⟩
  rcases get_set h1 with ⟨rfl, _, hl⟩ | ⟨n1, h1'⟩
  · rcases get_set h2 with ⟨_, q, _⟩ | ⟨q, _⟩
    · cases q; exact h0
    · exact absurd rfl q
  · rw [List.getElem?_set_ne n1] at h2
    exact b.own j x l h1' h2
/-- it grows -/
theorem Ent.grow (e : Ent S ρ w σ G H) {i : Nat} {l : Addr} {xs : List V} {ds es : List PyData} {zs : List V} (h1 : ρ[i]? = some (.ow ds)) (h2 : σ[i]? = some (some (.ref l))) (a : AtAll G zs es) :
    Ent S (ρ.set i (.ow es)) w σ G (upd H l (.lst zs)) := by
  obtain ⟨o, q1, l', ys, q2, q3, q4, q5, q6⟩ := e.sl i _ h1
  rw [q1] at h2
  have h2' := Option.some.inj h2
  rw [q2] at h2'
  have el : l' = l := by
    have := Option.some.inj h2'
    injection this
  subst el
  rw [q2] at q1
  have hi : i < ρ.length := (List.getElem?_eq_some_iff.mp h1).1
  refine ⟨fun b u g => by rw [upd_ne (ne_of_none g q4)]; exact e.sub b u g, by rw [List.length_set]; exact e.len, fun j s h => ?_, fun j1 j2 x1 y1 l2 g1 g2 g3 g4 => ?_, e.st.write q6⟩
  · rcases get_set h with ⟨rfl, rfl, hl⟩ | ⟨hne, h'⟩
    · exact ⟨_, q1, l', zs, rfl, upd_same, q4, a, q6⟩
    · obtain ⟨o2, r1, r2⟩ := e.sl j s h'
      refine ⟨o2, r1, ?_⟩
      cases s with
      | un => exact True.intro
      | fz d => exact r2
      | st => exact r2
      | ow ds2 =>
        obtain ⟨l3, ys3, t1, t2, t3, t4, t5⟩ := r2
        have hne3 : l3 ≠ l' := fun z => hne (e.ap i j _ _ l' h1 h' q1 (by rw [r1, t1, z]))
        exact ⟨l3, ys3, t1, by rw [upd_ne hne3]; exact t2, t3, t4, t5⟩
  · have back : ∀ {j : Nat} {x : List PyData}, (ρ.set i (.ow es))[j]? = some (.ow x) → ∃ y, ρ[j]? = some (.ow y) := fun {j x} g => by
      rcases get_set g with ⟨rfl, _, _⟩ | ⟨_, g'⟩
      · exact ⟨_, h1⟩
      · exact ⟨_, g'⟩
    obtain ⟨y1', g1'⟩ := back g1
    obtain ⟨y2', g2'⟩ := back g2
    exact e.ap j1 j2 _ _ l2 g1' g2' g3 g4
theorem Bas.grow (b : Bas S G0 H0 ρ σ G H) {i : Nat} {l : Addr} {ds es : List PyData} {zs : List V} (h1 : ρ[i]? = some (.ow ds)) (h2 : σ[i]? = some (some (.ref l))) (hg : G l = none) : Bas S G0 H0 (ρ.set i (.ow es)) σ G (upd H l (.lst zs)) := by
  have h0 := b.own i ds l h1 h2
  refine ⟨b.ext.write h0 hg, fun j x l2 g1 g2 => ?_⟩
  rcases get_set g1 with ⟨rfl, _, _⟩ | ⟨_, g'⟩
  · rw [h2] at g2
    cases g2
    exact h0
  · exact b.own j x l2 g' g2
/-- a list of the def's own is frozen -/
def frz (i : Nat) (ρ : Ev) : Ev := match ρ[i]? with
  | some (.ow ds) => ρ.set i (.fz (.list ds))
  | _ => ρ
end

/-! ### statements -/
section
variable {X : Cx} {κ : Cl → Addr} {E : XK} {pos : Pos} {s : Stmt} {ss : List Stmt} {t u : TS} {m m1 m2 : Ev → M Fl} {e : Expr} {te : TE} {f : Ev → M PyData}
def seqM (m1 m2 : Ev → M Fl) (ρ : Ev) : M Fl := do
  let r ← m1 ρ
  match r with
  | .nx ρ' => m2 ρ'
  | .rt d => pure (.rt d)
def skipM (ρ : Ev) : M Fl := pure (.nx ρ)
theorem rd_seq (h1 : RdS κ E t m1) (h2 : RdS κ E u m2) : RdS κ E (tSeq t u) (seqM m1 m2) := by
  intro S G0 H0 G H ρ w σ D env b p
  refine h1 S G0 H0 G H ρ w σ { D with nx := u D } env b ?_
  have p' : SPost κ S G0 H0 E D (M.bind (m1 ρ) (fun r => match r with | .nx ρ' => m2 ρ' | .rt d => pure (.rt d)) w) := p
  unfold M.bind at p'
  cases q : m1 ρ w with
  | ok r w' =>
    rw [q] at p'
    cases r with
    | nx ρ' => exact fun σ' G' H' env' b' => h2 S G0 H0 G' H' ρ' w' σ' D env' b' p'
    | rt d => exact p'
  | er c d w' =>
    rw [q] at p'
    exact p'
  | no =>
    rw [q] at p'
    exact p'.elim
theorem dss_nil : DSs X κ E [] tNext skipM := ⟨pss_nil, fun S G0 H0 G H ρ w σ D env b p => p σ G H env b⟩
theorem dss_one (h : DS X κ E s t m) : DSs X κ E [s] t m := ⟨pss_one h.p, h.r⟩
theorem dss_cons (h1 : DS X κ E s t m1) (h2 : DSs X κ E ss u m2) : DSs X κ E (s :: ss) (tSeq t u) (seqM m1 m2) := ⟨pss_cons h1.p h2.p, rd_seq h1.r h2.r⟩
/-- from here on the list in slot i is as any other -/
theorem Ent.frz {S : Option SA} {G0 H0 G H : Hp} {ρ : Ev} {σ : L2.St} {w : LS} {i : Nat} (env : Ent S ρ w σ G H) (b : Bas S G0 H0 ρ σ G H) : ∃ G', Ent S (frz i ρ) w σ G' H ∧ Bas S G0 H0 (frz i ρ) σ G' H := by
  unfold Wh.frz
  cases q : ρ[i]? with
  | none => exact ⟨G, env, b⟩
  | some sl =>
    cases sl with
    | un => exact ⟨G, env, b⟩
    | fz d => exact ⟨G, env, b⟩
    | st => exact ⟨G, env, b⟩
    | ow ds =>
      obtain ⟨o, q1, l, xs, q2, q3, q4, q5, q6⟩ := env.sl i _ q
      subst q2
      have h0 := b.own i ds l q q1
      have x := b.ext.freeze (o := .lst xs) h0 q3 q4
      have gg : Sub G (upd G l (.lst xs)) := fun a o2 g => by rw [upd_ne (ne_of_none g q4)]; exact g
      refine ⟨upd G l (.lst xs), ⟨x.sub, by rw [List.length_set]; exact env.len, fun j s h => ?_, fun j1 j2 x1 y1 l2 g1 g2 g3 g4 => ?_, env.st.freeze q6⟩, ⟨x, fun j y l2 g1 g2 => ?_⟩⟩
      · rcases get_set h with ⟨rfl, rfl, hl⟩ | ⟨hne, h'⟩
        · exact ⟨_, q1, .ref l, rfl, .lst upd_same (AtAll.mono gg ds xs q5)⟩
        · obtain ⟨o2, r1, r2⟩ := env.sl j s h'
          refine ⟨o2, r1, ?_⟩
          cases s with
          | un => exact True.intro
          | fz d =>
            obtain ⟨v, r3, r4⟩ := r2
            exact ⟨v, r3, At.mono gg d v r4⟩
          | st => exact r2
          | ow ds2 =>
            obtain ⟨l3, ys3, t1, t2, t3, t4, t5⟩ := r2
            have hne3 : l3 ≠ l := fun z => hne (env.ap i j _ _ l q h' q1 (by rw [r1, t1, z]))
            exact ⟨l3, ys3, t1, t2, by rw [upd_ne hne3]; exact t3, AtAll.mono gg ds2 ys3 t4, t5⟩
      · rcases get_set g1 with ⟨_, z, _⟩ | ⟨_, g1'⟩
        · cases z
        · rcases get_set g2 with ⟨_, z, _⟩ | ⟨_, g2'⟩
          · cases z
          · exact env.ap j1 j2 _ _ l2 g1' g2' g3 g4
      · rcases get_set g1 with ⟨_, z, _⟩ | ⟨_, g1'⟩
        · cases z
        · exact b.own j y l2 g1' g2
theorem rd_frz (i : Nat) (h : RdS κ E t m) : RdS κ E t (fun ρ => m (frz i ρ)) := by
  intro S G0 H0 G H ρ w σ D env b p
  obtain ⟨G', env', b'⟩ := Ent.frz (i := i) env b
  exact h S G0 H0 G' H _ w σ D env' b' p
theorem dss_frz (i : Nat) (h : DSs X κ E ss t m) : DSs X κ E ss t (fun ρ => m (frz i ρ)) := ⟨h.p, rd_frz i h.r⟩
theorem ds_frz (i : Nat) (h : DS X κ E s t m) : DS X κ E s t (fun ρ => m (frz i ρ)) := ⟨h.p, rd_frz i h.r⟩
/-- x = e -/
def setM (i : Nat) (f : Ev → M PyData) (ρ : Ev) : M Fl := do
  let d ← f ρ
  pure (.nx (ρ.set i (.fz d)))
theorem rd_set (i : Nat) (h : RdE κ E te f) : RdS κ E (tAsg te (gName i)) (setM i f) := by
  intro S G0 H0 G H ρ w σ D env b p
  refine h S G H ρ w σ _ env ((SPost.split p b.ext).imp fun d w1 G1 H1 x1 s1 h1 v av => ?_)
  exact h1 _ G1 H1 ((env.ext x1 s1).set av) (b.next x1).set
theorem ds_set (i : Nat) {x : Str} {pos' : Pos} (hN : X.N.Nodup) (he : DE X κ E e te f) (hi : X.N[i]? = some x := by rfl) (hx : Loc X.env.scope x := by first | exact Or.inl rfl | exact Or.inr rfl) (hs : swapsWith e (some (.Name x pos')) pos.line X.env = pure false := by rfl)
    (hf : X.fn x = true ∨ X.env.scope.names.lookup x = some .local := by first | exact .inl rfl | exact .inr rfl) : DS X κ E (.Assign [.Name x pos'] e pos) (tAsg te (gName i)) (setM i f) :=
  ⟨ps_set hN hi hx he.p hs hf, rd_set i he.r⟩
/-- x = [..], a list that will grow -/
def ownM (i : Nat) (fs : Ev → M (List PyData)) (ρ : Ev) : M Fl := do
  let ds ← fs ρ
  if ds.length ≤ sizeLine then pure (.nx (ρ.set i (.ow ds))) else M.no
theorem ds_own (i : Nat) {x : Str} {pos' lp : Pos} {es : List Expr} {ta : TA} {fs : Ev → M (List PyData)} (hN : X.N.Nodup) (he : DL X κ E es ta fs) (hi : X.N[i]? = some x := by rfl) (hx : Loc X.env.scope x := by first | exact Or.inl rfl | exact Or.inr rfl)
    (hs : swapsWith (.List es lp) (some (.Name x pos')) pos.line X.env = pure false := by rfl) (hf : X.fn x = true ∨ X.env.scope.names.lookup x = some .local := by first | exact .inl rfl | exact .inr rfl) :
    DS X κ E (.Assign [.Name x pos'] (.List es lp) pos) (tAsg (tLst ta) (gName i)) (ownM i fs) := by
  refine ⟨ps_set hN hi hx (pe_lst he.p) hs hf, fun S G0 H0 G H ρ w σ D env b p => ?_⟩
  refine he.r S G H ρ w σ _ env ((SPost.split p b.ext).imp fun ds w1 G1 H1 x1 s1 h1 vs av => ?_)
  obtain ⟨hz, h2⟩ := spost_if h1
  refine ⟨by rw [av.len]; exact hz, fun q hq => ?_⟩
  have env1 := env.ext x1 s1
  exact h2 _ _ _ (env1.setO hq av) ((b.next x1).setO hq x1.sub)
/-- xs.append(e), xs the def's own -/
def appM (i : Nat) (f : Ev → M PyData) (ρ : Ev) : M Fl := match ρ[i]? with
  | some (.ow ds) => do
    let d ← f ρ
    if ds.length < sizeLine then pure (.nx (ρ.set i (.ow (ds ++ [d])))) else M.no
  | _ => M.no
theorem ds_app (i : Nat) {x : Str} {np apos cpos : Pos} (he : DE X κ E e te f) (hN : X.N[i]? = some x := by rfl) (hv : Vis X.env.scope x := by first | exact Or.inl rfl | exact Or.inr (Or.inl rfl) | exact Or.inr (Or.inr rfl))
    (hd : (x == ("__debug__" : Str)) = false := by decide) (hcd : (x == ("__classdict__" : Str)) = false := by decide)
    (p : PE X (.Name x np) (tVar i) → PE X e te → PE X (.Call (.Attribute (.Name x np) "append" apos) [e] [] cpos) (tBM X.K "list" rAppend (tVar i) (tCons te tNil)) := by
      exact fun a b => pe_bm PySem.F.plainAttrs_list PySem.F.slot_list_append PySem.F.type_list_append mt_append a (pa_cons b pa_nil))
    (hs : swapsWith (.Call (.Attribute (.Name x np) "append" apos) [e] [] cpos) none pos.line X.env = pure false := by rfl) :
    DS X κ E (.Expr (.Call (.Attribute (.Name x np) "append" apos) [e] [] cpos) pos) (tDrop (tBM X.K "list" rAppend (tVar i) (tCons te tNil))) (appM i f) := by
  refine ⟨ps_expr (p (pe_var hN hv hd hcd) he.p) hs, fun S G0 H0 G H ρ w σ D env b q => ?_⟩
  unfold appM at q
  cases r : ρ[i]? with
  | none => rw [r] at q; exact q.elim
  | some sl =>
    rw [r] at q
    cases sl with
    | un => exact q.elim
    | fz d => exact q.elim
    | st => exact q.elim
    | ow ds =>
      obtain ⟨o, q1, l, xs, q2, q3, q4, q5, q6⟩ := env.sl i _ r
      subst q2
      refine ⟨_, q1, .inl ⟨rfl, xs, SqL.of q3⟩, ?_⟩
      refine he.r S G H ρ w σ _ env ((SPost.split q b.ext).imp fun d w1 G1 H1 x1 s1 h1 v av => ?_)
      obtain ⟨hz, h2⟩ := spost_if h1
      have hl := q5.len
      have q3' := x1.hh l _ q3 q6
      have q4' : G1 l = none := by rw [x1.nw l (not_none q3)]; exact q4
      refine ⟨l, xs, v, rfl, rfl, q3', by rw [hl]; exact hz, ?_⟩
      have env1 := env.ext x1 s1
      exact h2 _ _ _ (env1.grow (xs := xs) r q1 ((AtAll.mono x1.gg ds xs q5).append (.cons av .nil))) ((b.next x1).grow r q1 q4')
/-- an expression alone -/
def dropM (f : Ev → M PyData) (ρ : Ev) : M Fl := do
  let _ ← f ρ
  pure (.nx ρ)
theorem ds_expr (he : DE X κ E e te f) (hs : swapsWith e none pos.line X.env = pure false := by rfl) : DS X κ E (.Expr e pos) (tDrop te) (dropM f) := by
  refine ⟨ps_expr he.p hs, fun S G0 H0 G H ρ w σ D env b p => ?_⟩
  exact he.r S G H ρ w σ _ env ((SPost.split p b.ext).imp fun d w1 G1 H1 x1 s1 h1 v av => h1 _ G1 H1 (env.ext x1 s1) (b.next x1))
def retM (f : Ev → M PyData) (ρ : Ev) : M Fl := do
  let d ← f ρ
  pure (.rt d)
theorem ds_ret (he : DE X κ E e te f) : DS X κ E (.Return (some e) pos) (tRet te) (retM f) := by
  refine ⟨ps_ret he.p, fun S G0 H0 G H ρ w σ D env b p => ?_⟩
  exact he.r S G H ρ w σ _ env ((SPost.split p b.ext).imp fun d w1 G1 H1 x1 s1 h1 v av => h1 v G1 H1 (b.ext.trans x1) s1 av)
def iffM (g : Ev → M Bool) (m1 m2 : Ev → M Fl) (ρ : Ev) : M Fl := do
  let k ← g ρ
  if k = true then m1 ρ else m2 ρ
theorem ds_if {c : Expr} {tc : TT} {g : Ev → M Bool} {s1 s2 : List Stmt} (hc : DT X κ E c tc g) (h1 : DSs X κ E s1 t m1) (h2 : DSs X κ E s2 u m2) : DS X κ E (.If c s1 s2 pos) (tIfS tc t u) (iffM g m1 m2) := by
  refine ⟨ps_if hc.p h1.p h2.p, fun S G0 H0 G H ρ w σ D env b p => ?_⟩
  refine hc.r S G H ρ w σ _ env ((SPost.split p b.ext).imp fun k w1 G1 H1 x1 st1 q => ?_)
  cases k with
  | true => exact iteT (h1.r S G0 H0 G1 H1 ρ w1 σ D (env.ext x1 st1) (b.next x1) q)
  | false => exact iteF (h2.r S G0 H0 G1 H1 ρ w1 σ D (env.ext x1 st1) (b.next x1) q)
end
end Wh

namespace Wh
open PySem PySem.Spec PyProof.Rows L2

/-! ### targets -/
def wipeE (ρ : Ev) : List Nat → Ev
  | [] => ρ
  | v :: vs => (wipeE ρ vs).set v .un
def RdG (t : TG) (is : List Nat) (f : PyData → Ev → Option Ev) : Prop := ∀ S G H ρ w σ v d ρ' Q, Ent S ρ w σ G H → At G v d → f d ρ = some ρ' →
  (∀ σ', Ent S ρ' w σ' G H → (∀ G0 H0, Bas S G0 H0 ρ σ G H → Bas S G0 H0 ρ' σ' G H) → (∀ vs : List Nat, (∀ i ∈ is, i ∈ vs) → wipe σ' vs = wipe σ vs) → Q σ' H) → t v σ H Q
def RdGs (t : TGs) (is : List Nat) (f : List PyData → Ev → Option Ev) : Prop := ∀ S G H ρ w σ vs ds ρ' Q, Ent S ρ w σ G H → AtAll G vs ds → f ds ρ = some ρ' →
  (∀ σ', Ent S ρ' w σ' G H → (∀ G0 H0, Bas S G0 H0 ρ σ G H → Bas S G0 H0 ρ' σ' G H) → (∀ vs : List Nat, (∀ i ∈ is, i ∈ vs) → wipe σ' vs = wipe σ vs) → Q σ' H) → t vs σ H Q
theorem wipe_set {σ : L2.St} {i : Nat} {v : Option V} : ∀ {vs : List Nat}, i ∈ vs → wipe (σ.set i v) vs = wipe σ vs
  | [], h => absurd h (by simp)
  | w :: vs, h => by
    unfold wipe
    by_cases hi : i ∈ vs
    · rw [wipe_set hi]
    · have e : i = w := by
        rcases List.mem_cons.mp h with e | e
        · exact e
        · exact absurd e hi
      subst e
      have gen : ∀ us : List Nat, i ∉ us → wipe (σ.set i v) us = (wipe σ us).set i v := by
        intro us
        induction us with
        | nil => intro _; rfl
        | cons u us ih =>
          intro hu
          rw [List.mem_cons, not_or] at hu
          unfold wipe
          rw [ih hu.2, List.set_comm _ _ hu.1]
      rw [gen vs hi, List.set_set]
def tgN (i : Nat) (d : PyData) (ρ : Ev) : Option Ev := some (ρ.set i (.fz d))
def tgNil : List PyData → Ev → Option Ev
  | [], ρ => some ρ
  | _, _ => none
def tgCons (f : PyData → Ev → Option Ev) (fs : List PyData → Ev → Option Ev) : List PyData → Ev → Option Ev
  | d :: ds, ρ => match f d ρ with
    | some ρ' => fs ds ρ'
    | none => none
  | [], _ => none
def tgTup (n : Nat) (fs : List PyData → Ev → Option Ev) : PyData → Ev → Option Ev
  | .tuple ds, ρ => if ds.length = n then fs ds ρ else none
  | _, _ => none
structure DG (X : Cx) (e : Expr) (t : TG) (is : List Nat) (f : PyData → Ev → Option Ev) : Prop where
  p : PG X e t
  r : RdG t is f
structure DGs (X : Cx) (es : List Expr) (t : TGs) (is : List Nat) (f : List PyData → Ev → Option Ev) : Prop where
  p : PGs X es t
  r : RdGs t is f
section
variable {X : Cx} {pos : Pos}
theorem rd_gName (i : Nat) : RdG (gName i) [i] (tgN i) := by
  intro S G H ρ w σ v d ρ' Q env a e k
  cases e
  exact k _ (env.set a) (fun _ _ b => b.set) fun vs hi => wipe_set (hi i (by simp))
theorem dg_name (i : Nat) {x : Str} (hN : X.N.Nodup) (hi : X.N[i]? = some x := by rfl) (hx : Loc X.env.scope x := by first | exact Or.inl rfl | exact Or.inr rfl) (hf : X.fn x = true ∨ X.env.scope.names.lookup x = some .local := by first | exact .inl rfl | exact .inr rfl) :
    DG X (.Name x pos) (gName i) [i] (tgN i) := ⟨pg_name hN hi hx hf, rd_gName i⟩
theorem dgs_nil : DGs X [] gNil [] tgNil := by
  refine ⟨pgs_nil, fun S G H ρ w σ vs ds ρ' Q env a e k => ?_⟩
  cases a with
  | nil =>
    cases e
    exact ⟨rfl, k σ env (fun _ _ b => b) fun _ _ => rfl⟩
  | cons _ _ => cases e
theorem dgs_cons {e : Expr} {es : List Expr} {t : TG} {u : TGs} {is js : List Nat} {f : PyData → Ev → Option Ev} {fs : List PyData → Ev → Option Ev} (h1 : DG X e t is f) (h2 : DGs X es u js fs)
    (hs : (assignEach (e :: es) X.env).map (·.2) = assign e X.env :: (assignEach es X.env).map (·.2) := by rfl) : DGs X (e :: es) (gCons t u) (is ++ js) (tgCons f fs) := by
  refine ⟨pgs_cons h1.p h2.p hs, fun S G H ρ w σ vs ds ρ' Q env a e k => ?_⟩
  cases a with
  | nil => cases e
  | cons a1 a2 =>
    rename_i v vr d dr
    have e : (match f d ρ with | some ρ' => fs dr ρ' | none => none) = some ρ' := e
    cases q : f d ρ with
    | none => rw [q] at e; cases e
    | some ρ1 =>
      rw [q] at e
      refine ⟨v, vr, rfl, h1.r S G H ρ w σ v d ρ1 _ env a1 q fun σ1 env1 b1 w1 => ?_⟩
      refine h2.r S G H ρ1 w σ1 vr dr ρ' Q env1 a2 e fun σ2 env2 b2 w2 => ?_
      exact k σ2 env2 (fun G0 H0 b => b2 G0 H0 (b1 G0 H0 b)) fun us hu => (w2 us fun i hi => hu i (List.mem_append_right _ hi)).trans (w1 us fun i hi => hu i (List.mem_append_left _ hi))
theorem dg_tup {es : List Expr} {kk : Nat} {t : TGs} {n : Nat} {is : List Nat} {fs : List PyData → Ev → Option Ev} (hc : X.calm = true) (h : DGs X es t is fs)
    (hn : (assignEach es X.env).length = n := by rfl) (hst : (assignEach es X.env).findIdx? (·.1) = none := by rfl) : DG X (.Tuple es kk pos) (gTup X.K n t) is (tgTup n fs) := by
  refine ⟨pg_tup hc h.p hn hst, fun S G H ρ w σ v d ρ' Q env a e k => ?_⟩
  unfold tgTup at e
  cases a with
  | tup g r =>
    rename_i b xs ds
    simp only at e
    split at e
    · rename_i hl
      refine ⟨b, xs, rfl, SqT.of (env.sub _ _ g), by rw [r.len]; exact hl, ?_⟩
      exact h.r S G H ρ w σ xs ds ρ' Q env r e k
    · cases e
  | _ => cases e
end

/-- a list that no slot knows is put into a slot, the def's own -/
theorem Ent.takeO {S : Option SA} {ρ : Ev} {w : LS} {σ : L2.St} {G H : Hp} (env : Ent S ρ w σ G H) {i : Nat} {q : Addr} {vs : List V} {ds : List PyData} (hH : H q = some (.lst vs)) (hG : G q = none) (ho : AtAll G vs ds) (nmu : ¬ Mu S q)
    (fresh : ∀ (k : Nat) (y : List PyData), ρ[k]? = some (.ow y) → σ[k]? ≠ some (some (.ref q))) : Ent S (ρ.set i (.ow ds)) w (σ.set i (some (.ref q))) G H := by
  refine ⟨env.sub, by rw [List.length_set, List.length_set]; exact env.len, fun k s e => ?_, fun k1 k2 a1 a2 l e1 e2 e3 e4 => ?_, env.st⟩
  · rcases get_set e with ⟨rfl, rfl, hlt⟩ | ⟨hne, e'⟩
    · exact ⟨_, List.getElem?_set_self (by rw [← env.len]; exact hlt), q, vs, rfl, hH, hG, ho, nmu⟩
    · obtain ⟨o, g1, g2⟩ := env.sl k s e'
      exact ⟨o, by rw [List.getElem?_set_ne hne]; exact g1, g2⟩
  · rcases get_set e1 with ⟨rfl, _, hl1⟩ | ⟨n1, e1'⟩
    · rcases get_set e2 with ⟨rfl, _, _⟩ | ⟨n2, e2'⟩
      · rfl
      · rw [List.getElem?_set_self (by rw [← env.len]; exact hl1)] at e3
        cases e3
        rw [List.getElem?_set_ne n2] at e4
        exact absurd e4 (fresh k2 _ e2')
    · rcases get_set e2 with ⟨rfl, _, hl2⟩ | ⟨n2, e2'⟩
      · rw [List.getElem?_set_self (by rw [← env.len]; exact hl2)] at e4
        cases e4
        rw [List.getElem?_set_ne n1] at e3
        exact absurd e3 (fresh k1 _ e1')
      · rw [List.getElem?_set_ne n1] at e3
        rw [List.getElem?_set_ne n2] at e4
        exact env.ap k1 k2 _ _ l e1' e2' e3 e4
theorem Bas.takeO {S : Option SA} {G0 H0 : Hp} {ρ : Ev} {σ : L2.St} {G H : Hp} (b : Bas S G0 H0 ρ σ G H) {i : Nat} {q : Addr} {ds : List PyData} (h0 : H0 q = none) : Bas S G0 H0 (ρ.set i (.ow ds)) (σ.set i (some (.ref q))) G H := by
  refine ⟨b.ext, fun k y l e1 e2 => ?_⟩
  rcases get_set e1 with ⟨rfl, _, hlt⟩ | ⟨n1, e1'⟩
  · rcases get_set e2 with ⟨_, z, _⟩ | ⟨z, _⟩
    · cases z; exact h0
    · exact absurd rfl z
  · rw [List.getElem?_set_ne n1] at e2
    exact b.own k y l e1' e2
/-! ### target = value -/
section
variable {X : Cx} {κ : Cl → Addr} {E : XK} {pos : Pos} {te : TE} {f : Ev → M PyData}
def asgM (g : PyData → Ev → Option Ev) (f : Ev → M PyData) (ρ : Ev) : M Fl := do
  let d ← f ρ
  match g d ρ with
  | some ρ' => pure (.nx ρ')
  | none => M.no
theorem ds_asg {tg e : Expr} {t : TG} {is : List Nat} {g : PyData → Ev → Option Ev} (he : DE X κ E e te f) (hg : DG X tg t is g) (hs : swapsWithSole [tg] e pos.line X.env = pure false := by rfl) (hw : swappedStores [tg] e X.env = pure none := by rfl)
    (h1 : (assignEach [tg] X.env).map (·.2) = [assign tg X.env] := by rfl) : DS X κ E (.Assign [tg] e pos) (tAsg te t) (asgM g f) := by
  refine ⟨ps_asg he.p hg.p hs hw h1, fun S G0 H0 G H ρ w σ D env b p => ?_⟩
  refine he.r S G H ρ w σ _ env ((SPost.split p b.ext).imp fun d w1 G1 H1 x1 s1 h1 v av => ?_)
  cases q : g d ρ with
  | none => rw [q] at h1; exact h1.elim
  | some ρ' =>
    rw [q] at h1
    exact hg.r S G1 H1 ρ w1 σ v d ρ' _ (env.ext x1 s1) av q fun σ' env' b' _ => h1 σ' G1 H1 env' (b' _ _ (b.next x1))
/-- i, j = a, b -/
def parM (i j : Nat) (fs : Ev → M (List PyData)) (ρ : Ev) : M Fl := do
  let ds ← fs ρ
  match ds with
  | [a, b] => pure (.nx ((ρ.set i (.fz a)).set j (.fz b)))
  | _ => M.no
theorem ds_par (i j : Nat) {x y : Str} {a b : Expr} {ta : TA} {fs : Ev → M (List PyData)} {px py pt : Pos} {kt k2 pt2} (hc : X.calm = true) (hN : X.N.Nodup) (ha : DL X κ E [a, b] ta fs) (hi : X.N[i]? = some x := by rfl) (hj : X.N[j]? = some y := by rfl) (hij : i ≠ j := by decide)
    (hx : X.env.scope.names.lookup x = some .local := by rfl) (hy : X.env.scope.names.lookup y = some .local := by rfl)
    (hw : swappedStores [.Tuple [.Name x px, .Name y py] kt pt] (.Tuple [a, b] k2 pt2) X.env = pure (some [x, y]) := by rfl)
    (hs : swapsWithSole [.Tuple [.Name x px, .Name y py] kt pt] (.Tuple [a, b] k2 pt2) pos.line X.env = pure false := by rfl) :
    DS X κ E (.Assign [.Tuple [.Name x px, .Name y py] kt pt] (.Tuple [a, b] k2 pt2) pos) (tPar i j ta) (parM i j fs) := by
  refine ⟨ps_par hc hN hi hj hij hx hy ha.p hw hs, fun S G0 H0 G H ρ w σ D env b p => ?_⟩
  refine ha.r S G H ρ w σ _ env ((SPost.split p b.ext).imp fun ds w1 G1 H1 x1 s1 h1 vs av => ?_)
  match ds, h1, av with
  | [], h1, _ => exact h1.elim
  | [_], h1, _ => exact h1.elim
  | _ :: _ :: _ :: _, h1, _ => exact h1.elim
  | [d, e], h1, .cons a1 (.cons a2 .nil) =>
    exact ⟨_, _, rfl, h1 _ G1 H1 (((env.ext x1 s1).set a1).set a2) ((b.next x1).set.set)⟩
def par3M (i j l : Nat) (fs : Ev → M (List PyData)) (ρ : Ev) : M Fl := do
  let ds ← fs ρ
  match ds with
  | [a, b, c] => pure (.nx (((ρ.set i (.fz a)).set j (.fz b)).set l (.fz c)))
  | _ => M.no
theorem ds_par3 (i j l : Nat) {x y z : Str} {a b c : Expr} {ta : TA} {fs : Ev → M (List PyData)} {px py pz pt pos : Pos} {kt k2 pt2} (hc : X.calm = true) (hN : X.N.Nodup) (ha : DL X κ E [a, b, c] ta fs) (hi : X.N[i]? = some x := by rfl) (hj : X.N[j]? = some y := by rfl) (hl : X.N[l]? = some z := by rfl) (hij : i ≠ j := by decide) (hil : i ≠ l := by decide) (hjl : j ≠ l := by decide)
    (hx : X.env.scope.names.lookup x = some .local := by rfl) (hy : X.env.scope.names.lookup y = some .local := by rfl) (hz : X.env.scope.names.lookup z = some .local := by rfl)
    (hw : swappedStores [.Tuple [.Name x px, .Name y py, .Name z pz] kt pt] (.Tuple [a, b, c] k2 pt2) X.env = pure (some [x, y, z]) := by rfl)
    (hs : swapsWithSole [.Tuple [.Name x px, .Name y py, .Name z pz] kt pt] (.Tuple [a, b, c] k2 pt2) pos.line X.env = pure false := by rfl) :
    DS X κ E (.Assign [.Tuple [.Name x px, .Name y py, .Name z pz] kt pt] (.Tuple [a, b, c] k2 pt2) pos) (tPar3 i j l ta) (par3M i j l fs) := by
  refine ⟨ps_par3 hc hN hi hj hl hij hil hjl hx hy hz ha.p hw hs, fun S G0 H0 G H ρ w σ D env b p => ?_⟩
  refine ha.r S G H ρ w σ _ env ((SPost.split p b.ext).imp fun ds w1 G1 H1 x1 s1 h1 vs av => ?_)
  match ds, h1, av with
  | [], h1, _ => exact h1.elim
  | [_], h1, _ => exact h1.elim
  | [_, _], h1, _ => exact h1.elim
  | _ :: _ :: _ :: _ :: _, h1, _ => exact h1.elim
  | [d, e, f], h1, .cons a1 (.cons a2 (.cons a3 .nil)) =>
    exact ⟨_, _, _, rfl, h1 _ G1 H1 ((((env.ext x1 s1).set a1).set a2).set a3) ((b.next x1).set.set.set)⟩
/-- i, j = [..], b: the list is the def's own -/
def parOM (i j : Nat) (fs : Ev → M (List PyData)) (f : Ev → M PyData) (ρ : Ev) : M Fl := do
  let ds ← fs ρ
  if ds.length ≤ sizeLine then (do
    let d ← f ρ
    pure (.nx ((ρ.set i (.ow ds)).set j (.fz d)))) else M.no
theorem rd_parO {i j : Nat} (hij : i ≠ j) {ta : TA} {fs : Ev → M (List PyData)} (hl : RdL κ E ta fs) (hf : RdE κ E te f) : RdS κ E (tPar i j (tCons (tLst ta) (tCons te tNil))) (parOM i j fs f) := by
  intro S G0 H0 G H ρ w σ D env b p
  refine hl S G H ρ w σ _ env ((SPost.split p b.ext).imp fun ds w1 G1 H1 x1 s1 h1 vs av => ?_)
  obtain ⟨hz, h2⟩ := spost_if h1
  refine ⟨by rw [av.len]; exact hz, fun q hq => ?_⟩
  have env1 := env.ext x1 s1
  have xo := Ext.own (S := S) env1.sub (.lst vs) hq
  have so := s1.own (.lst vs) hq
  have envo := env1.ext xo so
  have b1 := (b.next x1).next xo
  refine hf S G1 _ ρ w1 σ _ envo ((SPost.split h2 b1.ext).imp fun d w2 G2 H2 x2 s2 h3 v av2 => ?_)
  refine ⟨.ref q, v, rfl, ?_⟩
  have nmu : ¬ Mu S q := s1.mu hq
  have hq1 : G1 q = none := env1.sub.new hq
  have hH2 : H2 q = some (.lst vs) := x2.hh q _ upd_same nmu
  have hG2 : G2 q = none := by rw [x2.nw q (by rw [upd_same]; exact fun z => by cases z)]; exact hq1
  have h0 : H0 q = none := by
    cases z : H0 q with
    | none => rfl
    | some o => exact absurd hq ((b.next x1).ext.hs q (not_none z))
  have env2 := envo.ext x2 s2
  have b2 := b1.next x2
  have ho : AtAll G2 vs ds := AtAll.mono (xo.gg.trans x2.gg) ds vs av
  -- the two slots
  have fresh : ∀ (k : Nat) (y : List PyData), ρ[k]? = some (.ow y) → σ[k]? ≠ some (some (.ref q)) := fun k y e1 e2 => by
    obtain ⟨o, e3, l, zs, e4, e5, _⟩ := env1.sl k _ e1
    rw [e3] at e2
    rw [e4] at e2
    have := Option.some.inj (Option.some.inj e2)
    injection this with this
    rw [this, hq] at e5
    cases e5
  have envA := env2.takeO (i := i) hH2 hG2 ho nmu fresh
  have bA := b2.takeO (i := i) (ds := ds) h0
  exact h3 _ G2 H2 (envA.set av2) bA.set
theorem ds_parO (i j : Nat) {x y : Str} {es : List Expr} {e2 : Expr} {ta : TA} {fs : Ev → M (List PyData)} {px py pt lp : Pos} {kt k2 pt2} (hc : X.calm = true) (hN : X.N.Nodup) (ha : DL X κ E es ta fs) (hb : DE X κ E e2 te f) (hi : X.N[i]? = some x := by rfl) (hj : X.N[j]? = some y := by rfl) (hij : i ≠ j := by decide)
    (hx : X.env.scope.names.lookup x = some .local := by rfl) (hy : X.env.scope.names.lookup y = some .local := by rfl)
    (hw : swappedStores [.Tuple [.Name x px, .Name y py] kt pt] (.Tuple [.List es lp, e2] k2 pt2) X.env = pure (some [x, y]) := by rfl)
    (hs : swapsWithSole [.Tuple [.Name x px, .Name y py] kt pt] (.Tuple [.List es lp, e2] k2 pt2) pos.line X.env = pure false := by rfl)
    (h1 : starEach [.List es lp, e2] X.env = (false, eval (.List es lp) X.env) :: starEach [e2] X.env := by rfl) (h2 : starEach [e2] X.env = (false, eval e2 X.env) :: starEach [] X.env := by rfl) :
    DS X κ E (.Assign [.Tuple [.Name x px, .Name y py] kt pt] (.Tuple [.List es lp, e2] k2 pt2) pos) (tPar i j (tCons (tLst ta) (tCons te tNil))) (parOM i j fs f) :=
  ⟨ps_par hc hN hi hj hij hx hy (pa_cons (pe_lst ha.p) (pa_cons hb.p pa_nil h2) h1) hw hs, rd_parO hij ha.r hb.r⟩
/-- the same by an unpacked pair (a name is a cell) -/
theorem ds_asgO (i j : Nat) {x y : Str} {es : List Expr} {e2 : Expr} {ta : TA} {fs : Ev → M (List PyData)} {px py pt lp : Pos} {kt k2 pt2} (hc : X.calm = true) (hN : X.N.Nodup) (ha : DL X κ E es ta fs) (hb : DE X κ E e2 te f) (hi : X.N[i]? = some x := by rfl) (hj : X.N[j]? = some y := by rfl)
    (hx : Loc X.env.scope x := by first | exact Or.inl rfl | exact Or.inr rfl) (hy : Loc X.env.scope y := by first | exact Or.inl rfl | exact Or.inr rfl)
    (hfx : X.fn x = true ∨ X.env.scope.names.lookup x = some .local := by first | exact .inl rfl | exact .inr rfl) (hfy : X.fn y = true ∨ X.env.scope.names.lookup y = some .local := by first | exact .inl rfl | exact .inr rfl)
    (hw : swappedStores [.Tuple [.Name x px, .Name y py] kt pt] (.Tuple [.List es lp, e2] k2 pt2) X.env = pure none := by rfl)
    (hs : swapsWithSole [.Tuple [.Name x px, .Name y py] kt pt] (.Tuple [.List es lp, e2] k2 pt2) pos.line X.env = pure false := by rfl)
    (h1 : starEach [.List es lp, e2] X.env = (false, eval (.List es lp) X.env) :: starEach [e2] X.env := by rfl) (h2 : starEach [e2] X.env = (false, eval e2 X.env) :: starEach [] X.env := by rfl)
    (g1 : (assignEach [.Tuple [.Name x px, .Name y py] kt pt] X.env).map (·.2) = [assign (.Tuple [.Name x px, .Name y py] kt pt) X.env] := by rfl)
    (g2 : (assignEach [.Name x px, .Name y py] X.env).map (·.2) = assign (.Name x px) X.env :: (assignEach [.Name y py] X.env).map (·.2) := by rfl) (g3 : (assignEach [.Name y py] X.env).map (·.2) = assign (.Name y py) X.env :: (assignEach [] X.env).map (·.2) := by rfl)
    (g4 : (assignEach [.Name x px, .Name y py] X.env).length = 2 := by rfl) (g5 : (assignEach [.Name x px, .Name y py] X.env).findIdx? (·.1) = none := by rfl) :
    DS X κ E (.Assign [.Tuple [.Name x px, .Name y py] kt pt] (.Tuple [.List es lp, e2] k2 pt2) pos) (tAsg (tTup (tCons (tLst ta) (tCons te tNil))) (gTup X.K 2 (gCons (gName i) (gCons (gName j) gNil)))) (parOM i j fs f) := by
  refine ⟨ps_asg (pe_tup (pa_cons (pe_lst ha.p) (pa_cons hb.p pa_nil h2) h1)) (pg_tup hc (pgs_cons (pg_name hN hi hx hfx) (pgs_cons (pg_name hN hj hy hfy) pgs_nil g3) g2) g4 g5) hs hw g1, ?_⟩
  intro S G0 H0 G H ρ w σ D env b p
  refine ha.r S G H ρ w σ _ env ((SPost.split p b.ext).imp fun ds w1 G1 H1 x1 s1 h1 vs av => ?_)
  obtain ⟨hz, h2⟩ := spost_if h1
  refine ⟨by rw [av.len]; exact hz, fun q hq => ?_⟩
  have env1 := env.ext x1 s1
  have xo := Ext.own (S := S) env1.sub (.lst vs) hq
  have so := s1.own (.lst vs) hq
  have envo := env1.ext xo so
  have b1 := (b.next x1).next xo
  refine hb.r S G1 _ ρ w1 σ _ envo ((SPost.split h2 b1.ext).imp fun d w2 G2 H2 x2 s2 h3 v av2 => ?_)
  refine ⟨by show 2 ≤ sizeLine; decide, fun p hp => ⟨p, _, rfl, SqT.of upd_same, rfl, _, _, rfl, _, _, rfl, rfl, ?_⟩⟩
  have nmu : ¬ Mu S q := s1.mu hq
  have hq1 : G1 q = none := env1.sub.new hq
  have hH2 : H2 q = some (.lst vs) := x2.hh q _ upd_same nmu
  have hG2 : G2 q = none := by rw [x2.nw q (by rw [upd_same]; exact fun z => by cases z)]; exact hq1
  have h0 : H0 q = none := by
    cases z : H0 q with
    | none => rfl
    | some o => exact absurd hq ((b.next x1).ext.hs q (not_none z))
  have env2 := envo.ext x2 s2
  have b2 := b1.next x2
  have ho : AtAll G2 vs ds := AtAll.mono (xo.gg.trans x2.gg) ds vs av
  have fresh : ∀ (k : Nat) (y : List PyData), ρ[k]? = some (.ow y) → σ[k]? ≠ some (some (.ref q)) := fun k y e1 e2 => by
    obtain ⟨o, e3, l, zs, e4, e5, _⟩ := env1.sl k _ e1
    rw [e3] at e2
    rw [e4] at e2
    have := Option.some.inj (Option.some.inj e2)
    injection this with this
    rw [this, hq] at e5
    cases e5
  have x3 := Ext.own (S := S) env2.sub (.tup [.ref q, v]) hp
  have s3 := s2.own (.tup [.ref q, v]) hp
  have env3 := env2.ext x3 s3
  have b3 := b2.next x3
  have hH3 := x3.hh q _ hH2 nmu
  exact h3 _ G2 _ ((env3.takeO (i := i) hH3 hG2 ho nmu fresh).set av2) (b3.takeO h0).set
end
end Wh

namespace Wh
open PySem PySem.Spec PyProof.Rows L2
open RZ (ItzT iZipA pi_zipA)

/-! ### enumerate of a tuple -/
theorem meets_enumT (l : Addr) (items : Array Value) :
    Meets (Builtin.«enumerate.__new__» ⟨[.type "enumerate", .ref l], []⟩) (fun _ R s => s.heap.IsTuple l items ∧
      R (.ok (.ret (.ref (s.heap.push { cls := .type "tuple_iterator", data := .fields #[.ref l, .int 0 0] }).objs.size)))
        { s with heap := (s.heap.push { cls := .type "tuple_iterator", data := .fields #[.ref l, .int 0 0] }).push { cls := .type "enumerate", data := .fields #[.none, .bool false, .ref s.heap.objs.size, rawInt 0, .none, .none] } }) :=
  .of_wp fun prog w A R s h => by
    obtain ⟨hp, g, d, tk, os⟩ := s
    obtain ⟨hl, h⟩ := h
    have hsub := sub_enumerate
    have hL : Heap.IsTuple (Shared.heap ⟨hp, g, d, tk, os⟩) l items := hl
    wp_walk using wpAny_pyIter_tuple hL
    refine wpAny_stack_any fun st => wpAny_pure ?_
    split
    · rename_i c _ _ _ _ _
      cases (c == Value.type "enumerate")
      · wp_walk using wpAny_pyIter_tuple hL
        exact ⟨_, rfl, h⟩
      · wp_walk using wpAny_pyIter_tuple hL
        exact ⟨_, rfl, h⟩
    · wp_walk using wpAny_pyIter_tuple hL
      exact ⟨_, rfl, h⟩
theorem call_enumT {prog : Program} {w : World} {A : Around} {E : Value → Shared → Prop} {s : Shared} {l : Addr} {items : Array Value} {Q : Value → Shared → Prop} (hL : s.heap.IsTuple l items)
    (h : ∀ h', IsEnum h' (s.heap.objs.size + 1) s.heap.objs.size 0 .none → h'.IsTupleIter s.heap.objs.size l 0 → (∀ b o, s.heap.get? b = some o → h'.get? b = some o) → Q (.ref (s.heap.objs.size + 1)) { s with heap := h' }) :
    wpAny (model prog w) A (call (.type "enumerate") [.ref l]) Q E s := by
  refine callType_new F.called_enumerate (by decide) (F.typeCall_enumerate_1 _) (F.newCall_enumerate_1 _) (fun obj => F.args_object_init_2 obj _) F.entry_enumerate_new
    (meets_enumT l items) ⟨hL, ?_⟩
  have hz : (s.heap.push { cls := .type "tuple_iterator", data := .fields #[.ref l, .int 0 0] }).objs.size = s.heap.objs.size + 1 := Heap.size_push ..
  show _ ∧ _
  rw [hz]
  have he : IsEnum ((s.heap.push { cls := .type "tuple_iterator", data := .fields #[.ref l, .int 0 0] }).push
      { cls := .type "enumerate", data := .fields #[.none, .bool false, .ref s.heap.objs.size, rawInt 0, .none, .none] }) (s.heap.objs.size + 1) s.heap.objs.size 0 .none := by
    have := Heap.get?_push_size (s.heap.push { cls := .type "tuple_iterator", data := .fields #[.ref l, .int 0 0] })
      (o := { cls := .type "enumerate", data := .fields #[.none, .bool false, .ref s.heap.objs.size, rawInt 0, .none, .none] }) rfl
    rw [hz] at this; exact this
  exact ⟨⟨_, he, rfl⟩, h _ he ⟨_, Heap.get?_push_of_some _ (Heap.get?_push_size _ rfl), rfl, rfl⟩ fun b o x => Heap.get?_push_of_some _ (Heap.get?_push_of_some _ x)⟩
def IteT (K : PySem.W.Frag) (a : Addr) : It :=
  ⟨fun i H => ∃ (xs : List V) (x : V), SqT K H a xs ∧ xs[i]? = some x, fun i H v H' => ∃ T x, v = .ref T ∧ H T = none ∧ H' = upd H T (.tup [.int (i : Nat), x]) ∧ ∀ xs, SqT K H a xs → xs[i]? = some x, fun i H => ∃ xs : List V, SqT K H a xs ∧ xs.length = i⟩
theorem turn_enumT {P : Program} {w : World} {K : PySem.W.Frag} {elts : List Expr} {kk : Nat} {tpos : Pos} (a e it : Addr) (hae : a ≠ e) (hai : a ≠ it) :
    Turn P w K (.Tuple elts kk tpos) (IteT K a) [e, it] e (fun i h => (∃ old, IsEnum h e it ((i : Nat) : Int) old) ∧ h.IsTupleIter it a i ∧ e ≠ it) where
  mem := by simp
  obj := fun i h st b hb => by
    obtain ⟨⟨old, he⟩, ⟨o, ho, hc, hd⟩, _⟩ := st
    have e' : b = e ∨ b = it := by simpa using hb
    rcases e' with z | z
    · rw [z]; exact ⟨_, he, fun v q => nomatch q⟩
    · rw [z]; exact ⟨o, ho, fun v q => by rw [hd] at q; cases q⟩
  keep := fun i h h' st k => let ⟨⟨old, he⟩, hi, hne⟩ := st; ⟨⟨old, k e (by simp) _ he⟩, hi.at fun o q => k it (by simp) o q, hne⟩
  item := by
    intro X hP hw hK hc i pins s σ H E I hf st hg
    subst hP hw hK
    obtain ⟨⟨old, he⟩, hit, hne⟩ := st
    obtain ⟨xs, x, hq, hx⟩ := hg
    obtain ⟨its, rv, p, hz⟩ := I.tuple hq
    obtain ⟨u, hu, ru⟩ := rv.get hx
    have hel : e < s.heap.objs.size := Heap.lt_size he
    have hil : it < s.heap.objs.size := by obtain ⟨_, q, _⟩ := hit; exact Heap.lt_size q
    have hul : i < its.toArray.size := by simpa using (List.getElem?_eq_some_iff.mp hu).1
    have D := Draws.tuple (prog := X.prog) (w := X.w) (A := X.A.in1) (I.ok.hd hc) it a hai its.toArray
    refine wpAny_pyNext_enum_itemD D he ⟨hit, p⟩ hul hne (by simp [hae.symm, hne]) fun x' h' tk hx' ho hit' hT hsz hk => ?_
    have ex : x' = u := by
      have h1 : its[i]? = some x' := by simpa using hx'
      rw [hu] at h1
      exact (Option.some.inj h1).symm
    subst ex
    refine ⟨_, rfl, wpAny_letOwnedTupleGo_enum (s := { s with heap := h', toks := tk + 1 }) ho fun h'' he' sb => ?_⟩
    have hT2 : h''.get? s.heap.objs.size = some { cls := .type "tuple", data := .seq #[.int i tk, x'] } := (sb.2 _ (Nat.ne_of_gt hel)).trans hT
    have new : ObjOk X.prog X.w (upd H s.heap.objs.size (.tup [.int (i : Nat), x])) h'' s.heap.objs.size (.tup [.int (i : Nat), x]) :=
      ⟨by show 2 ≤ sizeLine; decide, [.int i tk, x'], .cons ⟨_, rfl⟩ (.cons ru .nil), ⟨_, hT2, rfl, _, rfl⟩⟩
    have I1 : Inv X pins σ (upd H s.heap.objs.size (.tup [.int (i : Nat), x])) { s with heap := h'', toks := tk + 1 } :=
      I.turnedNew (ch := [e, it]) (fun b ob hb q => (sb.2 b (fun z => hb (by simp [z]))).trans (hk b ob (fun z => hb (by simp [z])) (fun z => hb (by simp [z])) q)) hf (Nat.le_refl _) new
    refine ⟨.ref s.heap.objs.size, _, I1, rfl, ⟨_, x, rfl, I.hok.fresh (Nat.le_refl _), rfl, fun ys hy => by rw [I.tuple_inj hy hq]; exact hx⟩, ⟨⟨x', ?_⟩, hit'.1.at fun o q => (sb.2 it (Ne.symm hne)).trans q, hne⟩, fun b hb => ?_⟩
    · have e1 : ((i + 1 : Nat) : Int) = (i : Int) + 1 := by omega
      rw [e1]; exact he'
    · have hb' : b < s.heap.objs.size := by
        have e' : b = e ∨ b = it := by simpa using hb
        rcases e' with z | z
        · rw [z]; exact hel
        · rw [z]; exact hil
      rw [upd_ne (Nat.ne_of_lt hb')]
      exact (hf b hb).1
  done := by
    intro X hP hw hK hc i pins s σ H E I hf st hg
    subst hP hw hK
    obtain ⟨⟨old, he⟩, hit, hne⟩ := st
    obtain ⟨xs, hq, hx⟩ := hg
    obtain ⟨its, rv, p, hz⟩ := I.tuple hq
    obtain ⟨f0, f1, f2, f3, f4, f5⟩ := hf it (by simp)
    have hl := rv.length
    have hs : its.toArray.size = i := by rw [List.size_toArray]; omega
    have D := Draws.tuple (prog := X.prog) (w := X.w) (A := X.A.in1) (I.ok.hd hc) it a hai its.toArray
    rw [← hs] at hit
    exact wpAny_pyNext_enum_endD D he ⟨hit, p⟩ fun h' eb => ⟨rfl, I.turned (t' := s.toks) (fun b o hb q => eb b o hb q) f0 f1 f3 f4 f5⟩
  self := fun A i s Q E st h => let ⟨⟨_, he⟩, _⟩ := st; wpAny_pyIter_enum he h
def iEnumT (K : PySem.W.Frag) (ta : TA) : TI := fun σ H R => ta σ H fun vs H1 => ∃ a xs, vs = [.ref a] ∧ SqT K H1 a xs ∧ R (IteT K a) H1
theorem pi_enumT {X : Cx} {e : Expr} {ta : TA} {p pos tpos : Pos} {elts : List Expr} {kk : Nat} (hg : Gl X "enumerate") (hm : X.mg "enumerate" = none) (ha : PA X [e] ta) (hs : starEach [e] X.env = [(false, eval e X.env)] := by rfl) :
    PI X (.Tuple elts kk tpos) (.Call (.Name "enumerate" p) [e] [] pos) (iEnumT X.K ta) := by
  refine ⟨fun pins s σ H R I h => ?_⟩
  refine Call_ (ld_blt I hg hm boot_enumerate (PyProof.Rows.callWith_type1 (thn (ha.run pos pins s σ H _ I h) fun us s1 ⟨vs, H1, I1, r1, q1⟩ => ?_) hs rfl))
  obtain ⟨a, xs, ex, hq, q⟩ := q1
  subst ex
  cases r1 with
  | cons r rr =>
    cases rr
    cases r
    obtain ⟨its, rv, p', hz⟩ := I1.tuple hq
    have hlt : a < s1.heap.objs.size := by obtain ⟨_, q, _⟩ := id p'; exact Heap.lt_size q
    refine call_enumT (show s1.heap.IsTuple a its.toArray from p') fun h' he hit hk => wpAny_pyIter_enum he ?_
    have I2 : Inv X pins σ H1 { s1 with heap := h' } := I1.kept (t' := s1.toks) hk
    refine ⟨s1.heap.objs.size + 1, [s1.heap.objs.size + 1, s1.heap.objs.size], _, _, H1, rfl, I2, turn_enumT a (s1.heap.objs.size + 1) s1.heap.objs.size (Nat.ne_of_lt (Nat.lt_succ_of_lt hlt)) (Nat.ne_of_lt hlt), ⟨⟨.none, he⟩, hit, Nat.succ_ne_self _⟩, fun b hb => ?_, q⟩
    have e' : b = s1.heap.objs.size + 1 ∨ b = s1.heap.objs.size := by simpa using hb
    have hle : s1.heap.objs.size ≤ b := by
      rcases e' with z | z
      · rw [z]; exact Nat.le_add_right _ _
      · rw [z]; exact Nat.le_refl _
    exact I1.fpOk hle (I1.hok.fresh hle)

/-! ### what is walked, by data -/
structure WalkD (S : Option SA) (J : It) (G0 : Hp) (ds : List PyData) : Prop where
  go : ∀ (i : Nat) (d : PyData) (G H : Hp) (w : LS), Sub G0 G → Sub G H → StAt S G H w → ds[i]? = some d → J.go i H ∧ ∀ x H', J.yld i H x H' → ∃ G', Ext S G H G' H' ∧ StAt S G' H' w ∧ At G' x d
  stop : ∀ (G H : Hp), Sub G0 G → Sub G H → J.stop ds.length H
def RdI (κ : Cl → Addr) (E : XK) (wi : TI) (f : Ev → M (List PyData)) : Prop := ∀ S G H ρ w σ R, Ent S ρ w σ G H → PostW κ S G H E (f ρ w) (fun ds _ G' H' => ∀ J, WalkD S J G' ds → R J H') → wi σ H R
structure DI (X : Cx) (κ : Cl → Addr) (E : XK) (tg iter : Expr) (wi : TI) (f : Ev → M (List PyData)) : Prop where
  p : PI X tg iter wi
  r : RdI κ E wi f
theorem walk_list {S : Option SA} {K : PySem.W.Frag} {G : Hp} {a : Addr} {xs : List V} {ds : List PyData} (g : G a = some (.lst xs)) (av : AtAll G xs ds) : WalkD S (Itl K a) G ds where
  go := fun i d G1 H1 w k1 k2 s e => by
    have q : SqL K H1 a xs := SqL.of (k2 _ _ (k1 _ _ g))
    obtain ⟨x, hx, hd⟩ := av.get e
    refine ⟨⟨xs, x, q, hx⟩, fun y H' hy => ?_⟩
    obtain ⟨e1, hy⟩ := hy
    subst e1
    have e2 := hy xs q
    rw [hx] at e2
    cases e2
    exact ⟨G1, Ext.refl k2, s, At.mono k1 d x hd⟩
  stop := fun G1 H1 k1 k2 => ⟨xs, SqL.of (k2 _ _ (k1 _ _ g)), by rw [av.len]; exact Nat.le_refl _⟩
theorem walk_tup {S : Option SA} {K : PySem.W.Frag} {G : Hp} {a : Addr} {xs : List V} {ds : List PyData} (g : G a = some (.tup xs)) (av : AtAll G xs ds) : WalkD S (Itt K a) G ds where
  go := fun i d G1 H1 w k1 k2 s e => by
    have q : SqT K H1 a xs := SqT.of (k2 _ _ (k1 _ _ g))
    obtain ⟨x, hx, hd⟩ := av.get e
    refine ⟨⟨xs, x, q, hx⟩, fun y H' hy => ?_⟩
    obtain ⟨e1, hy⟩ := hy
    subst e1
    have e2 := hy xs q
    rw [hx] at e2
    cases e2
    exact ⟨G1, Ext.refl k2, s, At.mono k1 d x hd⟩
  stop := fun G1 H1 k1 k2 => ⟨xs, SqT.of (k2 _ _ (k1 _ _ g)), by rw [av.len]; exact Nat.le_refl _⟩
def rngD (lo : Int) (n : Nat) : List PyData := (List.range n).map fun i => .int (lo + (i : Nat))
theorem walk_rng {S : Option SA} {G : Hp} (lo : Int) (n : Nat) : WalkD S (Itr lo n) G (rngD lo n) where
  go := fun i d G1 H1 w k1 k2 s e => by
    have hi : i < n := by
      have := (List.getElem?_eq_some_iff.mp e).1
      simpa [rngD] using this
    have ed : d = .int (lo + (i : Nat)) := by
      unfold rngD at e
      rw [List.getElem?_map, List.getElem?_range hi] at e
      exact (Option.some.inj e).symm
    refine ⟨hi, fun y H' hy => ?_⟩
    obtain ⟨e1, e2⟩ := hy
    subst e1 e2 ed
    exact ⟨G1, Ext.refl k2, s, .int _⟩
  stop := fun G1 H1 k1 k2 => by show n ≤ (rngD lo n).length; simp [rngD]
def enumFrom : Nat → List PyData → List PyData
  | _, [] => []
  | n, d :: ds => .tuple [.int (n : Nat), d] :: enumFrom (n + 1) ds
theorem enumFrom_len : ∀ (n : Nat) (ds : List PyData), (enumFrom n ds).length = ds.length
  | _, [] => rfl
  | n, d :: ds => congrArg (· + 1) (enumFrom_len (n + 1) ds)
theorem enumFrom_get : ∀ (n : Nat) (ds : List PyData) (i : Nat) (e : PyData), (enumFrom n ds)[i]? = some e → ∃ d, ds[i]? = some d ∧ e = .tuple [.int ((n + i : Nat) : Nat), d]
  | _, [], _, _, h => by simp [enumFrom] at h
  | n, d :: ds, 0, e, h => by
    have : PyData.tuple [.int (n : Nat), d] = e := by simpa [enumFrom] using h
    exact ⟨d, rfl, this.symm⟩
  | n, d :: ds, i + 1, e, h => by
    obtain ⟨d', h1, h2⟩ := enumFrom_get (n + 1) ds i e (by simpa [enumFrom] using h)
    refine ⟨d', by simpa using h1, ?_⟩
    rw [h2, show n + 1 + i = n + (i + 1) from by omega]
/-- a new pair is yielded -/
theorem yield_pair {S : Option SA} {G H : Hp} {w : LS} {T : Addr} {xs : List V} {ds : List PyData} (k : Sub G H) (s : StAt S G H w) (hT : H T = none) (av : AtAll G xs ds) : ∃ G', Ext S G H G' (upd H T (.tup xs)) ∧ StAt S G' (upd H T (.tup xs)) w ∧ At G' (.ref T) (.tuple ds) :=
  ⟨_, Ext.new k _ hT, s.new _ hT, At.tupN k hT av⟩
theorem walk_enumT {S : Option SA} {K : PySem.W.Frag} {G : Hp} {a : Addr} {xs : List V} {ds : List PyData} (g : G a = some (.tup xs)) (av : AtAll G xs ds) : WalkD S (IteT K a) G (enumFrom 0 ds) where
  go := fun i d G1 H1 w k1 k2 s e => by
    have q : SqT K H1 a xs := SqT.of (k2 _ _ (k1 _ _ g))
    obtain ⟨d', e', rfl⟩ := enumFrom_get 0 ds i d e
    obtain ⟨x, hx, hd⟩ := av.get e'
    refine ⟨⟨xs, x, q, hx⟩, fun y H' hy => ?_⟩
    obtain ⟨T, z, rfl, hT, rfl, hz⟩ := hy
    have e2 := hz xs q
    rw [hx] at e2
    cases e2
    rw [Nat.zero_add]
    exact yield_pair k2 s hT (.cons (.int _) (.cons (At.mono k1 d' x hd) .nil))
  stop := fun G1 H1 k1 k2 => ⟨xs, SqT.of (k2 _ _ (k1 _ _ g)), by rw [enumFrom_len, av.len]⟩
def zipD (as bs : List PyData) : List PyData := List.zipWith (fun a b => .tuple [a, b]) as bs
theorem walk_zip {S : Option SA} {K : PySem.W.Frag} {G : Hp} {a b : Addr} {xs ys : List V} {ds es : List PyData} (g : G a = some (.tup xs)) (av : AtAll G xs ds) (g' : G b = some (.tup ys)) (av' : AtAll G ys es) : WalkD S (ItzT K a b) G (zipD ds es) where
  go := fun i d G1 H1 w k1 k2 s e => by
    have q : SqT K H1 a xs := SqT.of (k2 _ _ (k1 _ _ g))
    have q' : SqT K H1 b ys := SqT.of (k2 _ _ (k1 _ _ g'))
    unfold zipD at e
    rw [List.getElem?_zipWith] at e
    cases e1 : ds[i]? with
    | none => rw [e1] at e; cases e
    | some d1 =>
      cases e2 : es[i]? with
      | none => rw [e1, e2] at e; cases e
      | some d2 =>
        rw [e1, e2] at e
        have ed : PyData.tuple [d1, d2] = d := by simpa using e
        subst ed
        obtain ⟨x, hx, hd⟩ := av.get e1
        obtain ⟨x', hx', hd'⟩ := av'.get e2
        refine ⟨⟨xs, ys, x, x', q, q', hx, hx'⟩, fun y H' hy => ?_⟩
        obtain ⟨T, z, z', rfl, hT, rfl, hz, hz'⟩ := hy
        have f1 := hz xs q
        have f2 := hz' ys q'
        rw [hx] at f1
        rw [hx'] at f2
        cases f1
        cases f2
        exact yield_pair k2 s hT (.cons (At.mono k1 d1 x hd) (.cons (At.mono k1 d2 x' hd') .nil))
  stop := fun G1 H1 k1 k2 => ⟨xs, ys, SqT.of (k2 _ _ (k1 _ _ g)), SqT.of (k2 _ _ (k1 _ _ g')), by
    unfold zipD
    rw [List.length_zipWith, av.len, av'.len]
    omega⟩

/-! ### iterables -/
section
variable {X : Cx} {κ : Cl → Addr} {E : XK} {tg : Expr}
def listM : PyData → M (List PyData)
  | .list ds => pure ds
  | _ => M.no
def tupleM : PyData → M (List PyData)
  | .tuple ds => pure ds
  | _ => M.no
def itM (g : PyData → M (List PyData)) (f : Ev → M PyData) (ρ : Ev) : M (List PyData) := do
  let d ← f ρ
  g d
theorem di_list {l : Expr} {tl : TE} {f : Ev → M PyData} (h : DE X κ E l tl f) : DI X κ E tg l (iList X.K tl) (itM listM f) := by
  refine ⟨pi_list h.p, fun S G H ρ w σ R env p => ?_⟩
  refine h.r S G H ρ w σ _ env (p.bind.imp fun d w1 G1 H1 x1 s1 h1 v av => ?_)
  cases d with
  | list ds =>
    cases av with
    | lst g r => exact ⟨_, rfl, ⟨_, SqL.of (x1.sub _ _ g)⟩, post_pure h1 x1.sub s1 _ (walk_list g r)⟩
  | _ => exact h1.elim
theorem di_tup {l : Expr} {tl : TE} {f : Ev → M PyData} (h : DE X κ E l tl f) : DI X κ E tg l (iTup X.K tl) (itM tupleM f) := by
  refine ⟨pi_tup h.p, fun S G H ρ w σ R env p => ?_⟩
  refine h.r S G H ρ w σ _ env (p.bind.imp fun d w1 G1 H1 x1 s1 h1 v av => ?_)
  cases d with
  | tuple ds =>
    cases av with
    | tup g r => exact ⟨_, rfl, ⟨_, SqT.of (x1.sub _ _ g)⟩, post_pure h1 x1.sub s1 _ (walk_tup g r)⟩
  | _ => exact h1.elim
def rng1M (fs : Ev → M (List PyData)) (ρ : Ev) : M (List PyData) := do
  let ds ← fs ρ
  match ds with
  | [.int j] => if -(2 ^ 62) ≤ j ∧ j < 2 ^ 62 then pure (rngD 0 j.toNat) else M.no
  | _ => M.no
def rng2M (fs : Ev → M (List PyData)) (ρ : Ev) : M (List PyData) := do
  let ds ← fs ρ
  match ds with
  | [.int i, .int j] => if -(2 ^ 62) ≤ i ∧ i < 2 ^ 62 ∧ -(2 ^ 62) ≤ j ∧ j < 2 ^ 62 then pure (rngD i (j - i).toNat) else M.no
  | _ => M.no
theorem ints1 {G : Hp} {vs : List V} {i : Int} (h : AtAll G vs [.int i]) : vs = [.int i] := by
  cases h with
  | cons a r => cases a; cases r; rfl
theorem ints2 {G : Hp} {vs : List V} {i j : Int} (h : AtAll G vs [.int i, .int j]) : vs = [.int i, .int j] := by
  cases h with
  | cons a r =>
    cases a
    rw [ints1 r]
theorem di_rng1 {a : Expr} {ta : TA} {fs : Ev → M (List PyData)} {p pos : Pos} (hg : Gl X "range") (hm : X.mg "range" = none) (ha : DL X κ E [a] ta fs) (hs : starEach [a] X.env = [(false, eval a X.env)] := by rfl) : DI X κ E tg (.Call (.Name "range" p) [a] [] pos) (iRng1 ta) (rng1M fs) := by
  refine ⟨pi_range1 hg hm ha.p hs, fun S G H ρ w σ R env p => ?_⟩
  refine ha.r S G H ρ w σ _ env (p.bind.imp fun ds w1 G1 H1 x1 s1 h1 vs av => ?_)
  split at h1
  · obtain ⟨⟨c1, c2⟩, h2⟩ := post_if h1
    exact ⟨_, ints1 av, c1, c2, post_pure h2 x1.sub s1 _ (walk_rng _ _)⟩
  · exact h1.elim
theorem di_rng2 {a b : Expr} {ta : TA} {fs : Ev → M (List PyData)} {p pos : Pos} (hg : Gl X "range") (hm : X.mg "range" = none) (ha : DL X κ E [a, b] ta fs) (hs : starEach [a, b] X.env = [(false, eval a X.env), (false, eval b X.env)] := by rfl) (hs2 : starEach [b] X.env = [(false, eval b X.env)] := by rfl) :
    DI X κ E tg (.Call (.Name "range" p) [a, b] [] pos) (iRng2 ta) (rng2M fs) := by
  refine ⟨pi_range2 hg hm ha.p hs hs2, fun S G H ρ w σ R env p => ?_⟩
  refine ha.r S G H ρ w σ _ env (p.bind.imp fun ds w1 G1 H1 x1 s1 h1 vs av => ?_)
  split at h1
  · obtain ⟨⟨c1, c2, c3, c4⟩, h2⟩ := post_if h1
    exact ⟨_, _, ints2 av, ⟨c1, c2, c3, c4⟩, post_pure h2 x1.sub s1 _ (walk_rng _ _)⟩
  · exact h1.elim
def enumM (fs : Ev → M (List PyData)) (ρ : Ev) : M (List PyData) := do
  let ds ← fs ρ
  match ds with
  | [.tuple xs] => pure (enumFrom 0 xs)
  | _ => M.no
def zipM (fs : Ev → M (List PyData)) (ρ : Ev) : M (List PyData) := do
  let ds ← fs ρ
  match ds with
  | [.tuple xs, .tuple ys] => pure (zipD xs ys)
  | _ => M.no
theorem di_enum {e : Expr} {ta : TA} {fs : Ev → M (List PyData)} {p pos tpos : Pos} {elts : List Expr} {kk : Nat} (hg : Gl X "enumerate") (hm : X.mg "enumerate" = none) (ha : DL X κ E [e] ta fs) (hs : starEach [e] X.env = [(false, eval e X.env)] := by rfl) :
    DI X κ E (.Tuple elts kk tpos) (.Call (.Name "enumerate" p) [e] [] pos) (iEnumT X.K ta) (enumM fs) := by
  refine ⟨pi_enumT hg hm ha.p hs, fun S G H ρ w σ R env p => ?_⟩
  refine ha.r S G H ρ w σ _ env (p.bind.imp fun ds w1 G1 H1 x1 s1 h1 vs av => ?_)
  split at h1
  · cases av with
    | cons a r =>
      cases r
      cases a with
      | tup g r => exact ⟨_, _, rfl, SqT.of (x1.sub _ _ g), post_pure h1 x1.sub s1 _ (walk_enumT g r)⟩
  · exact h1.elim
theorem di_zip {e e2 : Expr} {ta : TA} {fs : Ev → M (List PyData)} {p pos tpos : Pos} {elts : List Expr} {kk : Nat} (hg : Gl X "zip") (hm : X.mg "zip" = none) (ha : DL X κ E [e, e2] ta fs)
    (hs : starEach [e, e2] X.env = (false, eval e X.env) :: starEach [e2] X.env := by rfl) (hpl : (backTo pos (starEach [e2] X.env)).any (·.1) = false := by rfl) :
    DI X κ E (.Tuple elts kk tpos) (.Call (.Name "zip" p) [e, e2] [] pos) (iZipA X.K ta) (zipM fs) := by
  refine ⟨pi_zipA hg hm ha.p hs hpl, fun S G H ρ w σ R env p => ?_⟩
  refine ha.r S G H ρ w σ _ env (p.bind.imp fun ds w1 G1 H1 x1 s1 h1 vs av => ?_)
  split at h1
  · cases av with
    | cons a r =>
      cases r with
      | cons b r =>
        cases r
        cases a with
        | tup g r =>
          cases b with
          | tup g' r' => exact ⟨_, _, _, _, rfl, .inr ⟨SqT.of (x1.sub _ _ g), SqT.of (x1.sub _ _ g'), post_pure h1 x1.sub s1 _ (walk_zip g r g' r')⟩⟩
  · exact h1.elim
end
end Wh

namespace Wh
open PySem PySem.Spec PyProof.Rows L2

/-! ### for -/
theorem Ext.rebase {S : Option SA} {G0 H0 G1 H1 G H : Hp} (a : Ext S G0 H0 G1 H1) (b : Ext S G1 H0 G H) : Ext S G0 H0 G H :=
  ⟨b.sub, a.gg.trans b.gg, b.hh, b.hs, fun c e => (b.nw c e).trans (a.nw c e)⟩
theorem Ext.based {S : Option SA} {G0 H0 G1 H1 : Hp} (a : Ext S G0 H0 G1 H1) : Ext S G1 H0 G1 H1 := ⟨a.sub, Sub.refl _, a.hh, a.hs, fun _ _ => rfl⟩
theorem SPost.rebase {κ : Cl → Addr} {S : Option SA} {G0 H0 G1 H1 : Hp} {E : XK} {D : Ends} {r : R Fl} (h : SPost κ S G0 H0 E D r) (x : Ext S G0 H0 G1 H1) : SPost κ S G1 H0 E D r := by
  cases r with
  | ok f w' =>
    cases f with
    | nx ρ' => exact fun σ' G' H' env b => h σ' G' H' env ⟨x.rebase b.ext, b.own⟩
    | rt d => exact fun v G' H' y s a => h v G' H' (x.rebase y) s a
  | er c d w' => exact fun v y G' H' z => h v y G' H' (x.rebase z)
  | no => exact h
def forL (g : PyData → Ev → Option Ev) (body : Ev → M Fl) : List PyData → Ev → M Fl
  | [], ρ => pure (.nx ρ)
  | d :: ds, ρ => match g d ρ with
    | none => M.no
    | some ρ1 => do
      let r ← body ρ1
      match r with
      | .nx ρ2 => forL g body ds ρ2
      | .rt v => pure (.rt v)
def forM (g : PyData → Ev → Option Ev) (fI : Ev → M (List PyData)) (body : Ev → M Fl) (ρ : Ev) : M Fl := do
  let ds ← fI ρ
  forL g body ds ρ
theorem spost_seq {κ : Cl → Addr} {S : Option SA} {G0 H0 : Hp} {E : XK} {D : Ends} {m : M Fl} {k : Ev → M Fl} {w : LS} {N : L2.St → Hp → Prop}
    (h : SPost κ S G0 H0 E D ((do let r ← m; match r with | .nx ρ2 => k ρ2 | .rt v => pure (.rt v)) w))
    (hN : ∀ ρ' w' σ' G' H', SPost κ S G0 H0 E D (k ρ' w') → Ent S ρ' w' σ' G' H' → Bas S G0 H0 ρ' σ' G' H' → N σ' H') : SPost κ S G0 H0 E { D with nx := N, ct := N, bk := D.nx } (m w) := by
  have p' : SPost κ S G0 H0 E D (M.bind m (fun r => match r with | .nx ρ' => k ρ' | .rt d => pure (.rt d)) w) := h
  unfold M.bind at p'
  cases q : m w with
  | ok r w' =>
    rw [q] at p'
    cases r with
    | nx ρ' => exact fun σ' G' H' env' b' => hN ρ' w' σ' G' H' p' env' b'
    | rt d => exact p'
  | er c d w' =>
    rw [q] at p'
    exact p'
  | no =>
    rw [q] at p'
    exact p'.elim
theorem rd_for {κ : Cl → Addr} {E : XK} {wi : TI} {g : TG} {is : List Nat} {fg : PyData → Ev → Option Ev} {tb : TS} {fI : Ev → M (List PyData)} {mb : Ev → M Fl} (hi : RdI κ E wi fI) (hg : RdG g is fg) (hb : RdS κ E tb mb) : RdS κ E (tFor wi g tb) (forM fg fI mb) := by
  intro S G0 H0 G H ρ w σ D env b p
  refine hi S G H ρ w σ _ env ((SPost.split p b.ext).imp fun ds w1 G1 H1 x1 s1 h1 J W => ?_)
  have h2 := h1.rebase (b.next x1).ext
  have b1 : Bas S G1 H0 ρ σ G1 H1 := ⟨(b.next x1).ext.based, b.own⟩
  refine ⟨fun i m σ H => ∃ ρ w G, m = ds.length - i ∧ i ≤ ds.length ∧ Ent S ρ w σ G H ∧ Bas S G1 H0 ρ σ G H ∧ SPost κ S G1 H0 E D (forL fg mb (ds.drop i) ρ w), ⟨ds.length, ρ, w1, G1, rfl, Nat.zero_le _, env.ext x1 s1, b1, h2⟩, ?_⟩
  rintro i m σ' H' ⟨ρ', w', G', rfl, hle, env', b', p'⟩
  by_cases hlt : i < ds.length
  · have hd : ds[i]? = some ds[i] := List.getElem?_eq_getElem hlt
    obtain ⟨go, yl⟩ := W.go i _ G' H' w' b'.ext.gg env'.sub env'.st hd
    refine .inr ⟨go, fun σ2 H2 => ∃ ρ2 w2 G2, Ent S ρ2 w2 σ2 G2 H2 ∧ Bas S G1 H0 ρ2 σ2 G2 H2 ∧ SPost κ S G1 H0 E D (forL fg mb (ds.drop (i + 1)) ρ2 w2), ?_, ?_⟩
    · rintro σ2 H2 ⟨ρ2, w2, G2, e2, b2, p2⟩
      exact ⟨ds.length - (i + 1), by omega, ρ2, w2, G2, rfl, hlt, e2, b2, p2⟩
    · intro x H2 hy
      obtain ⟨G2, x2, s2, a2⟩ := yl x H2 hy
      have dd : ds.drop i = ds[i] :: ds.drop (i + 1) := List.drop_eq_getElem_cons hlt
      rw [dd] at p'
      have p' : SPost κ S G1 H0 E D ((match fg ds[i] ρ' with
        | none => M.no
        | some ρ1 => do
          let r ← mb ρ1
          match r with
          | .nx ρ2 => forL fg mb (ds.drop (i + 1)) ρ2
          | .rt v => pure (.rt v)) w') := p'
      cases q : fg ds[i] ρ' with
      | none => rw [q] at p'; exact p'.elim
      | some ρ1 =>
        rw [q] at p'
        refine hg S G2 H2 ρ' w' σ' x _ ρ1 _ (env'.ext x2 s2) a2 q fun σ3 env3 b3 _ => ?_
        exact hb S G1 H0 G2 H2 ρ1 w' σ3 _ env3 (b3 _ _ (b'.next x2)) (spost_seq p' fun ρ4 w4 σ4 G4 H4 p4 e4 b4 => ⟨ρ4, w4, G4, e4, b4, p4⟩)
  · have e : i = ds.length := by omega
    subst e
    rw [List.drop_length] at p'
    exact .inl ⟨W.stop G' H' b'.ext.gg env'.sub, p' σ' G' H' env' b'⟩
section
variable {X : Cx} {κ : Cl → Addr} {E : XK} {pos : Pos}
theorem ds_for {tg iter : Expr} {body : List Stmt} {wi : TI} {g : TG} {is : List Nat} {fg : PyData → Ev → Option Ev} {tb : TS} {fI : Ev → M (List PyData)} {mb : Ev → M Fl} (hp : PassesOwn (model X.prog X.w) X.A X.env X.xe) (hc : X.calm = true) (hi : DI X κ E tg iter wi fI) (hg : DG X tg g is fg) (hb : DSs X κ E body tb mb)
    (hs : ∀ x, foldedSetIterable iter X.env x = pure x := by intro _; rfl) : DS X κ E (.For tg iter body [] pos) (tFor wi g tb) (forM fg fI mb) :=
  ⟨ps_for hp hc hi.p hg.p hb.p hs, rd_for hi.r hg.r hb.r⟩
end

/-! ### list comprehensions -/
def lcL (vs : List Nat) (g : PyData → Ev → Option Ev) (ft : Ev → M Bool) (fe : Ev → M PyData) (ρ : Ev) : List PyData → M (List PyData)
  | [] => pure []
  | d :: ds => match g d (wipeE ρ vs) with
    | none => M.no
    | some ρ1 => do
      let b ← M.calm (ft ρ1)
      if b = true then (do
        let y ← M.calm (fe ρ1)
        let r ← lcL vs g ft fe ρ ds
        pure (y :: r)) else lcL vs g ft fe ρ ds
def lcM (vs : List Nat) (g : PyData → Ev → Option Ev) (fI : Ev → M (List PyData)) (ft : Ev → M Bool) (fe : Ev → M PyData) (ρ : Ev) : M PyData := do
  let ds ← fI ρ
  if ds.length ≤ sizeLine then (do
    let out ← lcL vs g ft fe ρ ds
    pure (.list out)) else M.no
theorem Ent.wipe {S : Option SA} {ρ : Ev} {w : LS} {σ : L2.St} {G H : Hp} (e : Ent S ρ w σ G H) : ∀ vs : List Nat, Ent S (wipeE ρ vs) w (L2.wipe σ vs) G H
  | [] => e
  | v :: vs => by
    have h := e.wipe vs
    unfold wipeE L2.wipe
    refine ⟨h.sub, by rw [List.length_set, List.length_set]; exact h.len, fun j s q => ?_, fun j1 j2 x y l h1 h2 h3 h4 => ?_, h.st⟩
    · rcases get_set q with ⟨rfl, rfl, hl⟩ | ⟨hne, q'⟩
      · exact ⟨none, List.getElem?_set_self (by rw [← h.len]; exact hl), True.intro⟩
      · obtain ⟨o, h1, h2⟩ := h.sl j s q'
        exact ⟨o, by rw [List.getElem?_set_ne hne]; exact h1, h2⟩
    · rcases get_set h1 with ⟨rfl, q, _⟩ | ⟨n1, h1'⟩
      · cases q
      · rcases get_set h2 with ⟨rfl, q, _⟩ | ⟨n2, h2'⟩
        · cases q
        · rw [List.getElem?_set_ne n1] at h3
          rw [List.getElem?_set_ne n2] at h4
          exact h.ap j1 j2 x y l h1' h2' h3 h4
/-- a list that no slot knows is written -/
theorem Ent.beside {S : Option SA} {ρ : Ev} {w : LS} {σ : L2.St} {G H : Hp} (e : Ent S ρ w σ G H) {D : Addr} {o : HO} (hG : G D = none) (nmu : ¬ Mu S D) (no : ∀ (k : Nat) (y : List PyData), ρ[k]? = some (.ow y) → σ[k]? ≠ some (some (.ref D))) : Ent S ρ w σ G (upd H D o) := by
  refine ⟨fun b u g => by rw [upd_ne (ne_of_none g hG)]; exact e.sub b u g, e.len, fun j s h => ?_, e.ap, e.st.write nmu⟩
  obtain ⟨o2, r1, r2⟩ := e.sl j s h
  refine ⟨o2, r1, ?_⟩
  cases s with
  | un => exact True.intro
  | fz d => exact r2
  | st => exact r2
  | ow ds2 =>
    obtain ⟨l3, ys3, t1, t2, t3, t4, t5⟩ := r2
    have hne : l3 ≠ D := fun z => no j _ h (by rw [r1, t1, z])
    exact ⟨l3, ys3, t1, by rw [upd_ne hne]; exact t2, t3, t4, t5⟩
theorem wipe_sub {σ : L2.St} {vs : List Nat} : ∀ us : List Nat, (∀ i ∈ us, i ∈ vs) → L2.wipe (L2.wipe σ us) vs = L2.wipe σ vs
  | [], _ => rfl
  | u :: us, h => by
    show L2.wipe ((L2.wipe σ us).set u none) vs = _
    rw [wipe_set (h u (by simp)), wipe_sub us fun i hi => h i (List.mem_cons_of_mem _ hi)]
theorem PostW.fin {α : Type} {κ : Cl → Addr} {S : Option SA} {G H : Hp} {E : XK} {r : R α} {k : α → LS → Hp → Hp → Prop} (h : PostW κ S G H E r k) : (∀ a w', r = .ok a w' → ∀ G' H', Ext S G H G' H' → StAt S G' H' w' → k a w' G' H') := by
  intro a w' e
  rw [e] at h
  exact h
def lcP (vs : List Nat) (g : PyData → Ev → Option Ev) (fI : Ev → M (List PyData)) (ft : Ev → M Bool) (fe : Ev → M PyData) (ρ : Ev) : M (List PyData) := do
  let ds ← fI ρ
  if ds.length ≤ sizeLine then lcL vs g ft fe ρ ds else M.no
theorem rd_lc0 {κ : Cl → Addr} {E : XK} {wi : TI} {g : TG} {is vs : List Nat} {fg : PyData → Ev → Option Ev} {tt : TT} {te : TE} {fI : Ev → M (List PyData)} {ft : Ev → M Bool} {fe : Ev → M PyData} (hi : RdI κ E wi fI) (hg : RdG g is fg) (hv : ∀ i ∈ is, i ∈ vs)
    (ht : RdT κ (fun _ _ _ => False) tt ft) (he : RdE κ (fun _ _ _ => False) te fe)  {S : Option SA} {G H : Hp} {ρ : Ev} {w : LS} {σ : L2.St} {Q : VK} (env : Ent S ρ w σ G H)
    (p : PostW κ S G H E (lcP vs fg fI ft fe ρ w) (fun out _ G' H' => ∀ (D : Addr) (xs : List V), H D = none → H' D = some (.lst xs) → G' D = none → ¬ Mu S D → AtAll G' xs out → Q (.ref D) H')) : tLc wi g tt te vs σ H Q := by
  refine hi S G H ρ w σ _ env (p.bind.imp fun ds w1 G1 H1 x1 s1 h1 J W D hD => ?_)
  obtain ⟨hz, h2⟩ := post_if h1
  have h0D : H D = none := by
    cases z : H D with
    | none => rfl
    | some o => exact absurd hD (x1.hs D (not_none z))
  generalize hkk : (fun (out : List PyData) (_ : LS) (G' H' : Hp) => ∀ (D : Addr) (xs : List V), H D = none → H' D = some (.lst xs) → G' D = none → ¬ Mu S D → AtAll G' xs out → Q (.ref D) H') = kk at h2
  have h2' : PostW κ S G1 H1 E (M.bind (lcL vs fg ft fe ρ ds) (fun r => pure ([] ++ r)) w1) kk := by
    have e : M.bind (lcL vs fg ft fe ρ ds) (fun r => pure ([] ++ r)) w1 = lcL vs fg ft fe ρ ds w1 := by
      unfold M.bind
      cases lcL vs fg ft fe ρ ds w1 <;> rfl
    rw [e]
    exact h2
  have env1 := env.ext x1 s1
  have hG1 : G1 D = none := env1.sub.new hD
  have nmu : ¬ Mu S D := s1.mu hD
  have fresh : ∀ (k : Nat) (y : List PyData), ρ[k]? = some (.ow y) → σ[k]? ≠ some (some (.ref D)) := fun k y e1 e2 => by
    obtain ⟨o, e3, l, zs, e4, e5, _⟩ := env1.sl k _ e1
    rw [e3] at e2
    rw [e4] at e2
    have := Option.some.inj (Option.some.inj e2)
    injection this with this
    rw [this, hD] at e5
    cases e5
  have freshW : ∀ us : List Nat, ∀ (k : Nat) (y : List PyData), (wipeE ρ us)[k]? = some (.ow y) → (L2.wipe σ us)[k]? ≠ some (some (.ref D)) := fun us k y e1 e2 => by
    have e2' := (wipe_some e2).1
    have back : ∀ us : List Nat, (wipeE ρ us)[k]? = some (.ow y) → ρ[k]? = some (.ow y) := by
      intro us
      induction us with
      | nil => exact id
      | cons u us ih =>
        intro z
        unfold wipeE at z
        rcases get_set z with ⟨_, q, _⟩ | ⟨_, z'⟩
        · cases q
        · exact ih z'
    exact fresh k y (back us e1) e2'
  have xD := Ext.own (S := S) env1.sub (.lst []) hD
  have sD := s1.own (.lst []) hD
  -- what holds ahead of turn i
  refine ⟨fun i m H' => ∃ w' G' acc xs, m = ds.length - i ∧ i ≤ ds.length ∧ Ext S G1 H1 G' H' ∧ Ent S (wipeE ρ vs) w' (L2.wipe σ vs) G' H' ∧ H' D = some (.lst xs) ∧ G' D = none ∧ AtAll G' xs acc ∧ acc.length ≤ i ∧
    PostW κ S G1 H1 E ((do let r ← lcL vs fg ft fe ρ (ds.drop i); pure (acc ++ r)) w') kk, ⟨ds.length, w1, G1, [], [], rfl, Nat.zero_le _, xD, (env1.wipe vs).ext (Ext.own (S := S) env1.sub (.lst []) hD) sD, upd_same, hG1, .nil, Nat.le_refl _, h2'⟩, ?_⟩
  rintro i m H' ⟨w', G', acc, xs, rfl, hle, x', env', hH, hG, av, hal, p'⟩
  by_cases hlt : i < ds.length
  · have hd : ds[i]? = some ds[i] := List.getElem?_eq_getElem hlt
    obtain ⟨go, yl⟩ := W.go i _ G' H' w' x'.gg env'.sub env'.st hd
    refine .inr ⟨go, fun H2 => ∃ w2 G2 acc2 xs2, Ext S G1 H1 G2 H2 ∧ Ent S (wipeE ρ vs) w2 (L2.wipe σ vs) G2 H2 ∧ H2 D = some (.lst xs2) ∧ G2 D = none ∧ AtAll G2 xs2 acc2 ∧ acc2.length ≤ i + 1 ∧
      PostW κ S G1 H1 E ((do let r ← lcL vs fg ft fe ρ (ds.drop (i + 1)); pure (acc2 ++ r)) w2) kk, ?_, ?_⟩
    · rintro H2 ⟨w2, G2, acc2, xs2, q1, q2, q3, q4, q5, q6, q7⟩
      exact ⟨ds.length - (i + 1), by omega, w2, G2, acc2, xs2, rfl, hlt, q1, q2, q3, q4, q5, q6, q7⟩
    · intro x H2 hy
      obtain ⟨G2, x2, s2, a2⟩ := yl x H2 hy
      have dd : ds.drop i = ds[i] :: ds.drop (i + 1) := List.drop_eq_getElem_cons hlt
      rw [dd] at p'
      have p' : PostW κ S G1 H1 E (M.bind (match fg ds[i] (wipeE ρ vs) with
        | none => M.no
        | some ρ1 => do
          let b ← M.calm (ft ρ1)
          if b = true then (do
            let y ← M.calm (fe ρ1)
            let r ← lcL vs fg ft fe ρ (ds.drop (i + 1))
            pure (y :: r)) else lcL vs fg ft fe ρ (ds.drop (i + 1))) (fun r => pure (acc ++ r)) w') kk := p'
      cases q : fg ds[i] (wipeE ρ vs) with
      | none => rw [q] at p'; exact p'.elim
      | some ρ1 =>
        rw [q] at p'
        refine hg S G2 H2 (wipeE ρ vs) w' (L2.wipe σ vs) x _ ρ1 _ (env'.ext x2 s2) a2 q fun σ3 env3 b3 hw => ⟨(hw vs hv).trans (wipe_sub vs fun _ h => h), ?_⟩
        have X2 := x'.trans x2
        have p2 : PostW κ S G1 H1 E (M.bind (M.bind (M.calm (ft ρ1)) (fun b => if b = true then (do
            let y ← M.calm (fe ρ1)
            let r ← lcL vs fg ft fe ρ (ds.drop (i + 1))
            pure (y :: r)) else lcL vs fg ft fe ρ (ds.drop (i + 1)))) (fun r => pure (acc ++ r)) w') kk := p'
        have assoc : ∀ {α β γ : Type} (m : M α) (f : α → M β) (h : β → M γ) (w : LS), M.bind (M.bind m f) h w = M.bind m (fun a => M.bind (f a) h) w := by
          intro α β γ m f h w
          show (match (match m w with | .ok a w' => f a w' | .er c d w' => .er c d w' | .no => .no) with | .ok a w' => h a w' | .er c d w' => .er c d w' | .no => .no) = (match m w with | .ok a w' => M.bind (f a) h w' | .er c d w' => .er c d w' | .no => .no)
          cases m w <;> rfl
        rw [assoc] at p2
        have p3 : PostW κ S G2 H2 E (M.calm (ft ρ1) w') (fun b w'' _ _ => PostW κ S G1 H1 E (M.bind (if b = true then (do
            let y ← M.calm (fe ρ1)
            let r ← lcL vs fg ft fe ρ (ds.drop (i + 1))
            pure (y :: r)) else lcL vs fg ft fe ρ (ds.drop (i + 1))) (fun r => pure (acc ++ r)) w'') kk) := PostW.split (m := M.calm (ft ρ1)) p2 X2
        refine ht S G2 H2 ρ1 w' σ3 _ env3 (PostW.imp (PostW.calm p3) fun b w3 G3 H3 x3 s3 h3 => ?_)
        have X3 := X2.trans x3
        have hH3 : H3 D = some (.lst xs) := x3.hh D _ (x2.hh D _ hH nmu) nmu
        have hG3 : G3 D = none := by
          rw [x3.nw D (not_none (x2.hh D _ hH nmu)), x2.nw D (not_none hH)]
          exact hG
        cases b with
        | false =>
          refine iteF ?_
          refine ⟨w3, G3, acc, xs, X3, (env'.ext x2 s2).ext x3 s3, hH3, hG3, AtAll.mono (x2.gg.trans x3.gg) acc xs av, by omega, ?_⟩
          exact h3
        | true =>
          refine iteT ?_
          have h4 : PostW κ S G1 H1 E (M.bind (M.bind (M.calm (fe ρ1)) (fun y => do
            let r ← lcL vs fg ft fe ρ (ds.drop (i + 1))
            pure (y :: r))) (fun r => pure (acc ++ r)) w3) kk := h3
          rw [assoc] at h4
          have h5 : PostW κ S G3 H3 E (M.calm (fe ρ1) w3) (fun y w'' _ _ => PostW κ S G1 H1 E (M.bind (M.bind (lcL vs fg ft fe ρ (ds.drop (i + 1))) (fun r => pure (y :: r))) (fun r => pure (acc ++ r)) w'') kk) := PostW.split (m := M.calm (fe ρ1)) h4 X3
          refine he S G3 H3 ρ1 w3 σ3 _ (env3.ext x3 s3) (PostW.imp (PostW.calm h5) fun y w4 G4 H4 x4 s4 h6 yv ay => ?_)
          have hH4 : H4 D = some (.lst xs) := x4.hh D _ hH3 nmu
          have hG4 : G4 D = none := by rw [x4.nw D (not_none hH3)]; exact hG3
          refine ⟨xs, hH4, by rw [av.len]; omega, ?_⟩
          have env4 := ((env'.ext x2 s2).ext x3 s3).ext x4 s4
          refine ⟨w4, G4, acc ++ [y], xs ++ [yv], (X3.trans x4).write hD hG4, env4.beside hG4 nmu (freshW vs), upd_same, hG4, (AtAll.mono ((x2.gg.trans x3.gg).trans x4.gg) acc xs av).append (.cons ay .nil), by rw [List.length_append]; exact Nat.succ_le_succ hal, ?_⟩
          rw [assoc] at h6
          have e : (fun r => M.bind (pure (y :: r)) (fun r => (pure (acc ++ r) : M (List PyData)))) = fun r => (pure ((acc ++ [y]) ++ r) : M (List PyData)) := by
            funext r
            show M.bind (M.pure (y :: r)) _ = _
            have : acc ++ y :: r = (acc ++ [y]) ++ r := by rw [List.append_assoc]; rfl
            rw [← this]
            rfl
          have h7 : PostW κ S G1 H1 E (M.bind (lcL vs fg ft fe ρ (ds.drop (i + 1))) (fun r => M.bind (pure (y :: r)) (fun r => (pure (acc ++ r) : M (List PyData)))) w4) kk := h6
          rw [e] at h7
          exact h7
  · have e : i = ds.length := by omega
    subst e
    rw [List.drop_length] at p'
    refine .inl ⟨W.stop G' H' x'.gg env'.sub, ?_⟩
    have p2 : PostW κ S G1 H1 E ((pure (acc ++ []) : M (List PyData)) w') kk := p'
    rw [List.append_nil] at p2
    have p3 := p2 G' H' x' env'.st
    rw [← hkk] at p3
    exact p3 D xs h0D hH hG nmu av
theorem lcM_eq (vs : List Nat) (g : PyData → Ev → Option Ev) (fI : Ev → M (List PyData)) (ft : Ev → M Bool) (fe : Ev → M PyData) (ρ : Ev) (w : LS) : lcM vs g fI ft fe ρ w = M.bind (lcP vs g fI ft fe ρ) (fun out => pure (.list out)) w := by
  show M.bind (fI ρ) _ w = M.bind (M.bind (fI ρ) _) _ w
  unfold M.bind
  cases fI ρ w with
  | ok ds w' =>
    by_cases h : ds.length ≤ sizeLine
    · simp only [if_pos h]
      rfl
    · simp only [if_neg h]
      rfl
  | er c d w' => rfl
  | no => rfl
theorem rd_lc {κ : Cl → Addr} {E : XK} {wi : TI} {g : TG} {is vs : List Nat} {fg : PyData → Ev → Option Ev} {tt : TT} {te : TE} {fI : Ev → M (List PyData)} {ft : Ev → M Bool} {fe : Ev → M PyData} (hi : RdI κ E wi fI) (hg : RdG g is fg) (hv : ∀ i ∈ is, i ∈ vs)
    (ht : RdT κ (fun _ _ _ => False) tt ft) (he : RdE κ (fun _ _ _ => False) te fe) : RdE κ E (tLc wi g tt te vs) (lcM vs fg fI ft fe) := by
  intro S G H ρ w σ Q env p
  refine rd_lc0 hi hg hv ht he env ?_
  rw [lcM_eq] at p
  refine (PostW.split (m := lcP vs fg fI ft fe ρ) p (Ext.refl env.sub)).imp fun out w1 G1 H1 x1 s1 h1 D xs h0 hH hG nmu av => ?_
  have gg : Sub G1 (upd G1 D (.lst xs)) := fun a o2 g => by rw [upd_ne (ne_of_none g hG)]; exact g
  exact h1 (upd G1 D (.lst xs)) H1 (x1.freeze h0 hH hG) (s1.freeze nmu) _ (.lst upd_same (AtAll.mono gg out xs av))
end Wh

namespace Wh
open PySem PySem.Spec PyProof.Rows L2

/-! ### list comprehensions in a def -/
structure DTs (X : Cx) (κ : Cl → Addr) (E : XK) (es : List Expr) (t : TT) (f : Ev → M Bool) : Prop where
  p : PTs X es t
  r : RdT κ E t f
def yesM (_ : Ev) : M Bool := pure true
abbrev EF : XK := fun _ _ _ => False
section
variable {X : Cx} {κ : Cl → Addr} {E : XK} {pos : Pos}
theorem dts_nil : DTs X κ E [] tYes yesM := ⟨pts_nil, fun S G H ρ w σ Q env h => post_pure (a := true) (k := kB Q) h env.sub env.st⟩
theorem dts_one {c : Expr} {t : TT} {f : Ev → M Bool} (h : DT X κ E c t f) : DTs X κ E [c] t f := ⟨pts_one h.p, h.r⟩
variable {elt tg iter : Expr} {ifs : List Expr} {scope : Scope} {own : List (Str × Nat)} {wi : TI} {g : TG} {tt : TT} {te : TE} {is : List Nat} {fg : PyData → Ev → Option Ev} {fI : Ev → M (List PyData)} {ft : Ev → M Bool} {fe : Ev → M PyData}
theorem de_lc (hc : X.calm = true) (hN : X.N.Nodup) (hi : DI X κ E tg iter wi fI) (ok : BlkOk X.N X.env.scope scope own)
    (hg : ∀ (s : Shared) (H : Hp) (C : Addr) (cl : List (Str × Addr)) (fp : List Addr), DG (X.blk s H scope (compEnvC scope cl C X.env) fp) tg g is fg) (ht : ∀ (s : Shared) (H : Hp) (C : Addr) (cl : List (Str × Addr)) (fp : List Addr), DTs (X.blk s H scope (compEnvC scope cl C X.env) fp) κ EF ifs tt ft)
    (he : ∀ (s : Shared) (H : Hp) (C : Addr) (cl : List (Str × Addr)) (fp : List Addr), DE (X.blk s H scope (compEnvC scope cl C X.env) fp) κ EF elt te fe) (hv : ∀ i ∈ is, i ∈ own.map (·.2) := by decide) (hs : ∀ x, foldedSetIterable iter X.env x = pure x := by intro _; rfl) :
    DE X κ E (.ListComp elt [⟨tg, iter, ifs, 0⟩] scope pos) (tLc wi g tt te (own.map (·.2))) (lcM (own.map (·.2)) fg fI ft fe) :=
  ⟨pe_lc hc hN hi.p ok (fun s H C cl fp => (hg s H C cl fp).p) (fun s H C cl fp => (ht s H C cl fp).p) (fun s H C cl fp => (he s H C cl fp).p) hs,
    rd_lc hi.r (hg X.s_0 (fun _ => none) 0 [] []).r hv (ht X.s_0 (fun _ => none) 0 [] []).r (he X.s_0 (fun _ => none) 0 [] []).r⟩
theorem ds_setLc (i : Nat) {y : Str} {py spos : Pos} (hc : X.calm = true) (hN : X.N.Nodup) (hi : DI X κ E tg iter wi fI) (ok : BlkOk X.N X.env.scope scope own)
    (hg : ∀ (s : Shared) (H : Hp) (C : Addr) (cl : List (Str × Addr)) (fp : List Addr), DG (X.blk s H scope (compEnvC scope cl C X.env) fp) tg g is fg) (ht : ∀ (s : Shared) (H : Hp) (C : Addr) (cl : List (Str × Addr)) (fp : List Addr), DTs (X.blk s H scope (compEnvC scope cl C X.env) fp) κ EF ifs tt ft)
    (he : ∀ (s : Shared) (H : Hp) (C : Addr) (cl : List (Str × Addr)) (fp : List Addr), DE (X.blk s H scope (compEnvC scope cl C X.env) fp) κ EF elt te fe) (hy : X.N[i]? = some y := by rfl) (hyl : X.env.scope.names.lookup y = some .local := by rfl)
    (hsw : swapsWith (.ListComp elt [⟨tg, iter, ifs, 0⟩] scope pos) (some (.Name y py)) spos.line X.env = pure true := by exact sw_true (by rfl) (by rfl) (by rfl) (by rfl)) (hv : ∀ i ∈ is, i ∈ own.map (·.2) := by decide) (hs : ∀ x, foldedSetIterable iter X.env x = pure x := by intro _; rfl) :
    DS X κ E (.Assign [.Name y py] (.ListComp elt [⟨tg, iter, ifs, 0⟩] scope pos) spos) (tAsg (tLc wi g tt te (own.map (·.2))) (gName i)) (setM i (lcM (own.map (·.2)) fg fI ft fe)) :=
  ⟨ps_setLc hc hN hy hyl hsw hi.p ok (fun s H C cl fp => (hg s H C cl fp).p) (fun s H C cl fp => (ht s H C cl fp).p) (fun s H C cl fp => (he s H C cl fp).p) hs,
    rd_set i (rd_lc hi.r (hg X.s_0 (fun _ => none) 0 [] []).r hv (ht X.s_0 (fun _ => none) 0 [] []).r (he X.s_0 (fun _ => none) 0 [] []).r)⟩
end

/-! ### keys of any depth -/
mutual
def keyOf : PyData → NestedKey
  | .none => .none
  | .int i => .num i
  | .str x => .text x
  | .tuple ds => .tup (keysOf ds)
  | .bool _ => .none
  | .list _ => .none
  | .dict _ => .none
def keysOf : List PyData → List NestedKey
  | [] => []
  | d :: ds => keyOf d :: keysOf ds
end
mutual
def keyable : PyData → Bool
  | .none => true
  | .int _ => true
  | .str _ => true
  | .tuple ds => keyables ds
  | .bool _ => false
  | .list _ => false
  | .dict _ => false
def keyables : List PyData → Bool
  | [] => true
  | d :: ds => keyable d && keyables ds
end
section
variable {X : Cx} {pins : List (Addr × Obj)} {σ : L2.St} {H : Hp} {s : Shared}
mutual
theorem dp_nested (I : Inv X pins σ H s) : ∀ (d : PyData) (v : V) (u : Value), keyable d = true → Dp X.K H v d → RelV v u → NestedIs s.heap (keyOf d) u
  | .none, _, _, _, h, r => by
    cases h
    cases r
    exact .none
  | .int i, _, _, _, h, r => by
    cases h
    obtain ⟨t, rfl⟩ := r
    exact .int i t
  | .str x, _, _, _, h, r => by
    cases h
    obtain ⟨t, rfl⟩ := r
    exact .text x t
  | .tuple ds, _, _, k, h, r => by
    cases h with
    | tup hs ha =>
      cases r
      obtain ⟨its, rv, ⟨o, ho, hc, n, hd⟩, _⟩ := I.tuple hs
      exact .tup ho hc hd (dp_nesteds I ds _ its k ha rv)
  | .bool _, _, _, k, _, _ => by cases k
  | .list _, _, _, k, _, _ => by cases k
  | .dict _, _, _, k, _, _ => by cases k
theorem dp_nesteds (I : Inv X pins σ H s) : ∀ (ds : List PyData) (vs : List V) (us : List Value), keyables ds = true → DpAll X.K H vs ds → Vals vs us → NestedAll s.heap (keysOf ds) us
  | [], _, _, _, h, r => by
    cases h
    cases r
    exact .nil
  | d :: ds, _, _, k, h, r => by
    have k' : (keyable d && keyables ds) = true := k
    rw [Bool.and_eq_true] at k'
    cases h with
    | cons h1 h2 =>
      cases r with
      | cons r1 r2 => exact .cons (dp_nested I d _ _ k'.1 h1 r1) (dp_nesteds I ds _ _ k'.2 h2 r2)
end
end
mutual
theorem keyable_noDict : ∀ d : PyData, keyable d = true → PyData.hasDict d = false
  | .none, _ => rfl
  | .int _, _ => rfl
  | .str _, _ => rfl
  | .tuple ds, h => by rw [PyData.hasDict]; exact keyables_noDict ds h
  | .bool _, h => by cases h
  | .list _, h => by cases h
  | .dict _, h => by cases h
theorem keyables_noDict : ∀ ds : List PyData, keyables ds = true → PyData.hasDictAll ds = false
  | [], _ => rfl
  | d :: ds, h => by
    have k' : (keyable d && keyables ds) = true := h
    rw [Bool.and_eq_true] at k'
    rw [PyData.hasDictAll, keyable_noDict d k'.1, keyables_noDict ds k'.2]
    rfl
end

/-! ### {k: True for ..}, the keys tuples -/
abbrev Ky := NestedKey × Addr × Value
def kyEs (P : Program) (w : World) (xs : List Ky) : Array DictEntry := (xs.map (entryOfKey (nestedKind P w))).toArray
def KyOk (K : PySem.W.Frag) (H : Hp) (x : Ky) : Prop := ∃ d, x.1 = keyOf d ∧ keyable d = true ∧ (keyOf d).depth ≤ 8 ∧ Dp K H (.ref x.2.1) d
section
variable {X : Cx} {pins : List (Addr × Obj)} {σ : L2.St} {H : Hp} {s : Shared}
theorem ok_dkO {P : Program} {w : World} {H : Hp} {h : Heap} {a : Addr} {es : Array DictEntry} {o : Obj} {ep : Nat} (h1 : h.get? a = some o) (h2 : o.ExactDict) (h3 : o.data = .dict es ep) : ObjOk P w H h a (dkO a es) :=
  ⟨⟨o, ep, h1, h2, h3⟩, ⟨o, h1⟩, fun _ _ ⟨o', ep', q1, q2, q3⟩ k => ⟨o', ep', k o' q1, q2, q3⟩⟩
theorem dk_inv (I : Inv X pins σ H s) {a : Addr} {es : Array DictEntry} (h : H a = some (dkO a es)) : ∃ o ep, s.heap.get? a = some o ∧ o.ExactDict ∧ o.data = .dict es ep := (I.hok a _ h).1
theorem ky_dictOf (I : Inv X pins σ H s) {D : Addr} {xs : List Ky} (hD : H D = some (dkO D (kyEs X.prog X.w xs))) (ok : ∀ x ∈ xs, KyOk X.K H x) (nd : (xs.map (·.1)).Nodup) : s.heap.DictOfH (nestedKind X.prog X.w) D xs := by
  obtain ⟨o, ep, h1, h2, h3⟩ := dk_inv I hD
  refine ⟨o, _, ep, h1, h2, h3, by unfold kyEs; rw [List.toList_toArray], fun x hx => ?_, nd⟩
  obtain ⟨d, e1, e2, e3, e4⟩ := ok x hx
  refine ⟨?_, by rw [e1]; exact e3⟩
  rw [e1]
  exact dp_nested I d (.ref x.2.1) _ e2 e4 rfl
theorem ky_set {E : Value → Shared → Prop} {D : Addr} {xs : List Ky} {k : NestedKey} {a : Addr} {u r : Value} {Q : Unit → Shared → Prop} (hu : X.A.units + 8 < cLine) (I : Inv X pins σ H s) (hD : H D = some (dkO D (kyEs X.prog X.w xs))) (ok : ∀ x ∈ xs, KyOk X.K H x) (nd : (xs.map (·.1)).Nodup) (hz : xs.length ≤ sizeLine)
    (hk : KyOk X.K H (k, a, .bool true)) (ru : RelV (.ref a) u) (rr : RelV (.bl true) r) (h : ∀ s', Inv X pins σ (upd H D (dkO D (kyEs X.prog X.w (storedH xs k a (.bool true))))) s' → Q () s') : wpAny (model X.prog X.w) X.A (dictSet D u r) Q E s := by
  cases ru
  cases rr
  obtain ⟨d, e1, e2, e3, e4⟩ := hk
  have hkey : (nestedKind X.prog X.w).is s.heap k a := ⟨by
    have e1' : k = keyOf d := e1
    rw [e1']
    exact dp_nested I d (.ref a) _ e2 e4 rfl, by
    have e1' : k = keyOf d := e1
    rw [e1']
    exact e3⟩
  refine wpAny_dictSet_heap (knd := nestedKind X.prog X.w) (hsz := hz) hu hkey (ky_dictOf I hD ok nd) fun h' hm' hs => h _ ?_
  obtain ⟨o, es, ep, q1, q2, q3, q4, _, _⟩ := hm'
  have ees : es = kyEs X.prog X.w (storedH xs k a (.bool true)) := by
    unfold kyEs
    rw [← q4]
  rw [ees] at q3
  exact d_write I (by rw [hD]; exact True.intro) hs ⟨o, q1⟩ (ok_dkO q1 q2 q3)
end
def tDcN (P : Program) (w : World) (K : PySem.W.Frag) (wi : TI) (g : TG) (tt : TT) (tk : TE) (vs : List Nat) : TE := fun σ H Q => wi σ H fun J H1 => ∀ D, H1 D = none → (D == sysModules) = false → ∃ W : Nat → Nat → Hp → Prop, (∃ m, W 0 m (upd H1 D (dkO D (kyEs P w [])))) ∧ ∀ i m H, W i m H →
  (J.stop i H ∧ Q (.ref D) H) ∨ (J.go i H ∧ ∃ Nx : Hp → Prop, (∀ H', Nx H' → ∃ m', m' < m ∧ W (i + 1) m' H') ∧ ∀ x H', J.yld i H x H' → g x (wipe σ vs) H' fun σ2 H2 => wipe σ2 vs = wipe σ vs ∧ tt σ2 H2 fun b H3 =>
    if b = true then tk σ2 H3 fun y H4 => ∃ (xs : List Ky) (k : NestedKey) (a : Addr), y = .ref a ∧ H4 D = some (dkO D (kyEs P w xs)) ∧ (∀ x ∈ xs, KyOk K H4 x) ∧ (xs.map (·.1)).Nodup ∧ xs.length ≤ sizeLine ∧ KyOk K H4 (k, a, .bool true) ∧ Nx (upd H4 D (dkO D (kyEs P w (storedH xs k a (.bool true))))) else Nx H3)
section
variable {X : Cx}
theorem dcN_core {pins : List (Addr × Obj)} {s : Shared} {σ : L2.St} {H : Hp} {Q : VK} {kx vx tg iter : Expr} {ifs : List Expr} {scope : Scope} {own : List (Str × Nat)} {pos pos' : Pos} {wi : TI} {g : TG} {tt : TT} {tk : TE} {use : Option (Value → Sem Unit)} {Qf : Value → Shared → Prop}
    (hu : X.A.units + 8 < cLine) (hc : X.calm = true) (hN : X.N.Nodup) (I : Inv X pins σ H s) (hi : PI X tg iter wi) (ok : BlkOk X.N X.env.scope scope own)
    (hg : ∀ (s : Shared) (H : Hp) (C : Addr) (cl : List (Str × Addr)) (fp : List Addr), PG (X.blk s H scope (compEnvC scope cl C X.env) fp) tg g) (ht : ∀ (s : Shared) (H : Hp) (C : Addr) (cl : List (Str × Addr)) (fp : List Addr), PTs (X.blk s H scope (compEnvC scope cl C X.env) fp) ifs tt)
    (hk : ∀ (s : Shared) (H : Hp) (C : Addr) (cl : List (Str × Addr)) (fp : List Addr), PE (X.blk s H scope (compEnvC scope cl C X.env) fp) kx tk)
    (he : ∀ (s : Shared) (H : Hp) (C : Addr) (cl : List (Str × Addr)) (fp : List Addr), PE (X.blk s H scope (compEnvC scope cl C X.env) fp) vx (tC (.bl true))) (hs : ∀ x, foldedSetIterable iter X.env x = pure x)
    (h : tDcN X.prog X.w X.K wi g tt tk (own.map (·.2)) σ H Q)
    (hRR : ∀ D C s' m H', Inv X pins σ H' s' → Q (.ref D) H' → s'.heap.Ns C m → FpOk X pins H' C → compPost (model X.prog X.w) X.A X.xe use Qf (.ref D) C (.ok .next) s') :
    wpAny (model X.prog X.w) X.A (comprehension (.DictComp kx vx [⟨tg, iter, ifs, 0⟩] scope pos) scope X.env pos' newDict false (eval iter X.env) use) Qf X.xe s := by
  have hfree : ∀ y ∈ scope.names, y.2 = .free → ∃ c, X.env.cells.lookup y.1 = some c := fun y hy e => by
    rcases ok.free y hy e with k | k
    · exact I.ok.has _ (.inl k)
    · exact I.ok.has _ (.inr k)
  refine wpAny_comprehension_free (use := use) rfl hs (closure_ok hfree) ok.kind (fun y hy e => by rw [ok.uniq y hy, e])
    (thn (hi.run pins s σ H _ I h) fun xv s1 hx => thn hx fun itv s2 h2 => ?_)
  obtain ⟨it, fp, tn, J, H2, e, I2, T, st2, f2, q⟩ := h2
  subst e
  refine wpAny_newObj_type (newEnv_comp ?_)
  generalize hD : s2.heap.objs.size = D
  have hDn : H2 D = none := I2.hok.fresh (Nat.le_of_eq hD)
  have hDm : (D == sysModules) = false := by rw [← hD]; exact beq_eq_false_iff_ne.mpr (Ne.symm (Nat.ne_of_lt I2.big))
  obtain ⟨W, ⟨m0, w0⟩, turn⟩ := q D hDn hDm
  -- the new dict
  generalize hs3 : ({ s2 with heap := s2.heap.push { cls := .type "dict", data := .dict #[] } } : Shared) = s3
  have I3 : Inv X pins σ (upd H2 D (dkO D (kyEs X.prog X.w []))) s3 := by
    rw [← hs3]
    refine I2.laid (t' := s2.toks) (fun b o e => Heap.get?_push_of_some _ e) (Nat.le_of_eq hD) ?_
    rw [← hD]
    exact ok_dkO (Heap.get?_push_size _ rfl) ⟨rfl, rfl, rfl⟩ rfl
  have h3 : s3.heap = s2.heap.push { cls := .type "dict", data := .dict #[] } := by rw [← hs3]
  have sz : ∀ b ∈ fp, b < s2.heap.objs.size := fun b hb => by
    obtain ⟨o, e, _⟩ := T.obj _ _ st2 b hb
    exact Heap.lt_size e
  have f3 : ∀ b ∈ fp, FpOk X pins (upd H2 D (dkO D (kyEs X.prog X.w []))) b ∧ b < s3.heap.objs.size := fun b hb => by
    have hlt := sz b hb
    refine ⟨⟨?_, (f2 b hb).2⟩, by rw [h3, Heap.size_push]; exact Nat.lt_succ_of_lt hlt⟩
    rw [upd_ne (by rw [← hD]; exact Nat.ne_of_lt hlt)]
    exact (f2 b hb).1
  have st3 : tn 0 s3.heap := T.keep _ _ _ st2 fun b _ o e => by rw [h3]; exact Heap.get?_push_of_some _ e
  have I4 := block_start I3 ok hN f3
  have pg := hg s3 (upd H2 D (dkO D (kyEs X.prog X.w []))) s3.heap.objs.size (cellsFrom (s3.heap.objs.size + 1) scope.names (cloFrom X.env.cells scope.names [])) fp
  have pt := ht s3 (upd H2 D (dkO D (kyEs X.prog X.w []))) s3.heap.objs.size (cellsFrom (s3.heap.objs.size + 1) scope.names (cloFrom X.env.cells scope.names [])) fp
  have pk := hk s3 (upd H2 D (dkO D (kyEs X.prog X.w []))) s3.heap.objs.size (cellsFrom (s3.heap.objs.size + 1) scope.names (cloFrom X.env.cells scope.names [])) fp
  have pe := he s3 (upd H2 D (dkO D (kyEs X.prog X.w []))) s3.heap.objs.size (cellsFrom (s3.heap.objs.size + 1) scope.names (cloFrom X.env.cells scope.names [])) fp
  show codeAny _ _ (.compStart (.DictComp kx vx [⟨tg, iter, ifs, 0⟩] scope pos) 0 (.ref it) (.ref D) (compEnvC scope (cellsFrom (s3.heap.objs.size + 1) scope.names (cloFrom X.env.cells scope.names [])) s3.heap.objs.size X.env)) (compPost (model X.prog X.w) X.A X.xe use Qf (.ref D) s3.heap.objs.size) { s3 with heap := pushCells (s3.heap.push { cls := .type "dict", data := .dict #[] }) scope.names }
  have nfp : ∀ b ∈ fp, (upd H2 D (dkO D (kyEs X.prog X.w []))) b = none := fun b hb => (f3 b hb).1.1
  generalize hce : compEnvC scope (cellsFrom (s3.heap.objs.size + 1) scope.names (cloFrom X.env.cells scope.names [])) s3.heap.objs.size X.env = ce at I4 pg pt pk pe ⊢
  have cL : ce.locals = s3.heap.objs.size := by subst hce; rfl
  generalize hH3 : upd H2 D (dkO D (kyEs X.prog X.w [])) = H3 at I3 I4 pg pt pk pe w0 nfp f3
  generalize hs4 : ({ s3 with heap := pushCells (s3.heap.push { cls := .type "dict", data := .dict #[] }) scope.names } : Shared) = s4 at I4 ⊢
  have st4 : tn 0 s4.heap := T.keep _ _ _ st3 fun b _ o e => by rw [← hs4]; exact pushCells_keeps _ _ _ _ (Heap.get?_push_of_some _ e)
  have stat : ∀ {σ' : L2.St} {H' : Hp} {s' : Shared}, Inv (X.blk s3 H3 scope ce fp) [] σ' H' s' → (∀ b ∈ fp, H' b = none) → ∀ b ∈ fp, FpOk (X.blk s3 H3 scope ce fp) [] H' b := fun {σ' H' s'} I' hn b hb =>
    ⟨hn b hb, (I'.ok.exf b hb).1, I'.ok.exfs b hb, .inl hb, fun x c e => (I'.ok.exf b hb).2 x c e, fun p hp => absurd (show p ∈ ([] : List (Addr × Obj)) ++ [] from hp) (by simp)⟩
  have loop : codeAny (model X.prog X.w) X.A (.compLoop (.DictComp kx vx [⟨tg, iter, ifs, 0⟩] scope pos) 0 (.ref it) (.ref D) ce) (compPost (model X.prog X.w) X.A X.xe use Qf (.ref D) s3.heap.objs.size) s4 := by
    refine compLoop_anyD (fun n s' => ∃ i H', Inv (X.blk s3 H3 scope ce fp) [] (wipe σ (own.map (·.2))) H' s' ∧ tn i s'.heap ∧ (∀ b ∈ fp, H' b = none) ∧ W i n H') ?_ m0 ⟨0, H3, I4, st4, nfp, w0⟩
    rintro n s5 ⟨i, H5, I5, st5, n5, w5⟩
    rcases turn i n H5 w5 with ⟨stop, qq⟩ | ⟨go, Nx, hNx, step⟩
    · have td := T.done (X.blk s3 H3 scope ce fp) rfl rfl rfl hc i [] s5 _ H5 (fun _ _ => False) I5 (stat I5 n5) st5 stop
      refine thnF td fun r s6 ⟨hr, I6⟩ => ?_
      subst hr
      have I7 : Inv X pins σ H5 s6 := I3.call' (ch := fp) I6.os I6.base I6.hok I6.bare fun b hb => ⟨(f3 b hb).1.2.2.2.1, (f3 b hb).1.2.1, (f3 b hb).1.2.2.2.2.1, (f3 b hb).1.2.2.2.2.2⟩
      have nC : H5 s3.heap.objs.size = none := by
        have z : H5 ce.locals = none := I6.free
        rw [cL] at z
        exact z
      obtain ⟨m, hn, _⟩ := I6.loc
      have hn : s6.heap.Ns ce.locals m := hn
      rw [cL] at hn
      exact hRR D s3.heap.objs.size s6 m H5 I7 qq hn (I3.fpOk (Nat.le_refl _) nC)
    · have ti := T.item (X.blk s3 H3 scope ce fp) rfl rfl rfl hc i [] s5 _ H5 (fun _ _ => False) I5 (stat I5 n5) st5 go
      refine thnF ti fun r s6 ⟨u, hr, h6⟩ => ?_
      subst hr
      refine thnF h6 fun _ s7 ⟨x, H7, I7, r7, y7, st7, n7⟩ => ?_
      have I7' := I7.pinned (stat I7 n7) (T.obj _ _ st7)
      refine thnF (pg.run _ s7 _ H7 x u _ I7' r7 (step x H7 y7)) fun _ s8 ⟨σ8, H8, I8, hw8, q8⟩ => ?_
      refine thnF (pt.run _ s8 σ8 H8 _ I8 q8) fun b s9 ⟨H9, I9, q9⟩ => ?_
      have fin : ∀ {s' : Shared} {H' : Hp}, Inv (X.blk s3 H3 scope ce fp) ([] ++ pinsAt fp s7.heap) σ8 H' s' → Nx H' → ∃ m, m < n ∧ ∃ i H', Inv (X.blk s3 H3 scope ce fp) [] (wipe σ (own.map (·.2))) H' s' ∧ tn i s'.heap ∧ (∀ b ∈ fp, H' b = none) ∧ W i m H' := fun {s' H'} I' nx => by
        obtain ⟨m', hm, w'⟩ := hNx H' nx
        have pin' : ∀ b ∈ fp, ∀ o, s7.heap.get? b = some o → s'.heap.get? b = some o ∧ H' b = none := fun b hb o e =>
          let z := I'.pin (b, o) (List.mem_append_right _ (List.mem_append_right _ (mem_pinsAt hb e)))
          ⟨z.1, z.2.1⟩
        have hl : (wipe σ (own.map (·.2))).length = σ8.length := by rw [← hw8, wipe_length]
        refine ⟨m', hm, i + 1, H', (I'.unpinned (pins := [])).weak hl (fun j v e => ?_), T.keep _ _ _ st7 fun b hb o e => (pin' b hb o e).1, fun b hb => ?_, w'⟩
        · rw [← hw8] at e
          exact (wipe_some e).1
        · obtain ⟨o, e, _⟩ := T.obj _ _ st7 b hb
          exact (pin' b hb o e).2
      cases b with
      | false =>
        simp only [Bool.false_eq_true, if_false] at q9 ⊢
        exact fin I9 q9
      | true =>
        simp only [if_true] at q9 ⊢
        refine thnF (pk.run _ s9 σ8 H9 _ I9 q9) fun z s10 ⟨yk, H10, I10, r10, xs, k, a, ek, hD10, ok10, nd10, hz10, hk10, nx⟩ => ?_
        subst ek
        refine thnF (pe.run _ s10 σ8 H10 (fun y H' => y = .bl true ∧ H' = H10) I10 ⟨rfl, rfl⟩) fun z2 s11 ⟨yv, H11, I11, r11, ey, eH⟩ => ?_
        subst ey eH
        exact ky_set (X := X.blk s3 H3 scope ce fp) hu I11 hD10 ok10 nd10 hz10 hk10 r10 r11 fun s12 I12 => fin I12 nx
  exact codeAny_compStart_dict loop (T.self X.A 0 _ _ _ st4 loop)
theorem sw_trueD {kx vx : Expr} {gs : List Comprehension} {scope : Scope} {pos py : Pos} {y : Str} {l : Nat} {env : PySem.Env} (hk : env.scope.kind = .function) (hy : env.scope.names.lookup y = some .local) (hl : (py.line == pos.line) = true)
    (ha : (scope.names.any fun (n, k) => n == y && (k == .local || k == .cell)) = false) : swapsWith (.DictComp kx vx gs scope pos) (some (.Name y py)) l env = pure true := by
  have ky : env.kindOf y = some .local := hy
  have hb : env.blockKind = .function := by unfold Env.blockKind; rw [hk]; rfl
  unfold swapsWith
  simp only [hb, ky, ha, Expr.pos, hl]
  rfl
end
end Wh

namespace Wh
open PySem PySem.Spec PyProof.Rows L2

section
variable {X : Cx}
theorem ps_setDcN {i : Nat} {y : Str} {py : Pos} {kx vx tg iter : Expr} {ifs : List Expr} {scope : Scope} {own : List (Str × Nat)} {pos spos : Pos} {wi : TI} {g : TG} {tt : TT} {tk : TE} (hu : X.A.units + 8 < cLine) (hc : X.calm = true) (hN : X.N.Nodup) (hy : X.N[i]? = some y) (hyl : X.env.scope.names.lookup y = some .local)
    (hsw : swapsWith (.DictComp kx vx [⟨tg, iter, ifs, 0⟩] scope pos) (some (.Name y py)) spos.line X.env = pure true) (hi : PI X tg iter wi) (ok : BlkOk X.N X.env.scope scope own)
    (hg : ∀ (s : Shared) (H : Hp) (C : Addr) (cl : List (Str × Addr)) (fp : List Addr), PG (X.blk s H scope (compEnvC scope cl C X.env) fp) tg g) (ht : ∀ (s : Shared) (H : Hp) (C : Addr) (cl : List (Str × Addr)) (fp : List Addr), PTs (X.blk s H scope (compEnvC scope cl C X.env) fp) ifs tt)
    (hk : ∀ (s : Shared) (H : Hp) (C : Addr) (cl : List (Str × Addr)) (fp : List Addr), PE (X.blk s H scope (compEnvC scope cl C X.env) fp) kx tk)
    (he : ∀ (s : Shared) (H : Hp) (C : Addr) (cl : List (Str × Addr)) (fp : List Addr), PE (X.blk s H scope (compEnvC scope cl C X.env) fp) vx (tC (.bl true))) (hs : ∀ x, foldedSetIterable iter X.env x = pure x) :
    PS X (.Assign [.Name y py] (.DictComp kx vx [⟨tg, iter, ifs, 0⟩] scope pos) spos) (tAsg (tDcN X.prog X.w X.K wi g tt tk (own.map (·.2))) (gName i)) := by
  refine ⟨fun pins s σ H D I h => ?_⟩
  rw [exec_Assign_Name_used _ _ _ _ hsw]
  refine wpAny_bind (wpAny_standAt (wpAny_bind ?_))
  show wpAny _ X.A (do let _ ← comprehension (.DictComp kx vx [⟨tg, iter, ifs, 0⟩] scope pos) scope X.env (firstIterPos [⟨tg, iter, ifs, 0⟩] pos) newDict false (eval iter X.env) (some (assign (.Name y py) X.env))) _ _ s
  have h : tDcN X.prog X.w X.K wi g tt tk (own.map (·.2)) σ H (fun x H1 => gName i x σ H1 D.nx) := h
  refine wpAny_bind (thn (dcN_core (Qf := fun _ s' => SP X pins D .next s') hu hc hN I hi ok hg ht hk he hs h fun L C s' m H' I' q hn f => ?_) fun _ s' hq => wpAny_pure (wpAny_pure hq))
  show wpAny _ _ (assign (.Name y py) X.env (.ref L)) _ _ _
  refine wpAny_assign_Name (store_ok2 (v := V.ref L) I' hN hy (.inl hyl) rfl (fun s2 I2 ⟨a, sb, ha⟩ => ?_) (.inr hyl))
  obtain ⟨f0, f1, f2, f3, f4, f5⟩ := f
  have haC : C ≠ a := by
    rcases ha with z | z
    · rw [z]; exact f1
    · exact fun e => f4 y a z e.symm
  refine ⟨m, hn.sameBut sb haC, fun h3 sb3 => ?_⟩
  exact ⟨_, H', I2.turned (t' := s2.toks) (fun b o hb e => (sb3.2 b hb).trans e) f0 f1 f3 f4 f5, q⟩
end

/-! ### its function on data -/
def kHas (acc : List PyData) (y : PyData) : Bool := acc.any fun x => decide (keyOf x = keyOf y)
def isTupD : PyData → Bool
  | .tuple _ => true
  | _ => false
def keyFit (y : PyData) : Bool := isTupD y && keyable y && decide ((keyOf y).depth ≤ 8)
def dcL (vs : List Nat) (g : PyData → Ev → Option Ev) (ft : Ev → M Bool) (fe : Ev → M PyData) (ρ : Ev) : List PyData → List PyData → M (List PyData)
  | [], acc => pure acc
  | d :: ds, acc => match g d (wipeE ρ vs) with
    | none => M.no
    | some ρ1 => do
      let b ← M.calm (ft ρ1)
      if b = true then (do
        let y ← M.calm (fe ρ1)
        if keyFit y = true then dcL vs g ft fe ρ ds (if kHas acc y = true then acc else acc ++ [y]) else M.no) else dcL vs g ft fe ρ ds acc
def dcM (vs : List Nat) (g : PyData → Ev → Option Ev) (fI : Ev → M (List PyData)) (ft : Ev → M Bool) (fe : Ev → M PyData) (ρ : Ev) : M PyData := do
  let ds ← fI ρ
  if ds.length ≤ sizeLine then (do
    let out ← dcL vs g ft fe ρ ds []
    pure (dkD out)) else M.no
def kyOf (acc : List PyData) (ks : List Addr) : List Ky := List.zipWith (fun d a => (keyOf d, a, Value.bool true)) acc ks
theorem kyOf_fst : ∀ {acc : List PyData} {ks : List Addr}, ks.length = acc.length → (kyOf acc ks).map (·.1) = acc.map keyOf
  | [], [], _ => rfl
  | [], _ :: _, h => by cases h
  | _ :: _, [], h => by cases h
  | d :: acc, a :: ks, h => by
    show keyOf d :: (kyOf acc ks).map (·.1) = _
    rw [kyOf_fst (Nat.succ.inj h)]
    rfl
theorem kyOf_len {acc : List PyData} {ks : List Addr} (h : ks.length = acc.length) : (kyOf acc ks).length = acc.length := by
  unfold kyOf
  rw [List.length_zipWith, h, Nat.min_self]
theorem kyOf_val {acc : List PyData} {ks : List Addr} {x : Ky} (h : x ∈ kyOf acc ks) : x.2.2 = .bool true := by
  unfold kyOf at h
  obtain ⟨i, hi⟩ := List.mem_iff_getElem?.mp h
  rw [List.getElem?_zipWith] at hi
  cases e1 : acc[i]? with
  | none => rw [e1] at hi; cases hi
  | some d =>
    cases e2 : ks[i]? with
    | none => rw [e1, e2] at hi; cases hi
    | some a =>
      rw [e1, e2] at hi
      have := Option.some.inj hi
      rw [← this]
theorem kyOf_append {acc : List PyData} {ks : List Addr} (h : ks.length = acc.length) (y : PyData) (a : Addr) : kyOf (acc ++ [y]) (ks ++ [a]) = kyOf acc ks ++ [(keyOf y, a, .bool true)] := by
  unfold kyOf
  rw [List.zipWith_append h.symm]
  rfl
theorem kyOf_key (P : Program) (w : World) : ∀ {acc : List PyData} {ks : List Addr}, ks.length = acc.length → (kyEs P w (kyOf acc ks)).toList.map (·.key) = ks.map Value.ref := by
  intro acc ks h
  unfold kyEs
  rw [List.toList_toArray, List.map_map]
  induction acc generalizing ks with
  | nil =>
    cases ks with
    | nil => rfl
    | cons _ _ => cases h
  | cons d acc ih =>
    cases ks with
    | nil => cases h
    | cons a ks =>
      show Value.ref a :: ((kyOf acc ks).map _) = Value.ref a :: ks.map Value.ref
      rw [ih (Nat.succ.inj h)]
theorem kHas_mem {acc : List PyData} {y : PyData} : kHas acc y = true ↔ keyOf y ∈ acc.map keyOf := by
  unfold kHas
  rw [List.any_eq_true, List.mem_map]
  constructor
  · rintro ⟨x, h1, h2⟩
    exact ⟨x, h1, of_decide_eq_true h2⟩
  · rintro ⟨x, h1, h2⟩
    exact ⟨x, h1, decide_eq_true h2⟩
theorem kyOf_stored {acc : List PyData} {ks : List Addr} (h : ks.length = acc.length) (y : PyData) (a : Addr) : storedH (kyOf acc ks) (keyOf y) a (.bool true) = if kHas acc y = true then kyOf acc ks else kyOf (acc ++ [y]) (ks ++ [a]) := by
  by_cases q : kHas acc y = true
  · rw [if_pos q]
    have m : keyOf y ∈ (kyOf acc ks).map (·.1) := by rw [kyOf_fst h]; exact kHas_mem.mp q
    cases e : atKey (kyOf acc ks) (keyOf y) with
    | none =>
      exfalso
      obtain ⟨x, h1, h2⟩ := List.mem_map.mp m
      unfold atKey at e
      have e' : (kyOf acc ks).find? (fun x => decide (x.1 = keyOf y)) = none := by
        cases z : (kyOf acc ks).find? (fun x => decide (x.1 = keyOf y)) with
        | none => rfl
        | some _ => rw [z] at e; cases e
      have := List.find?_eq_none.mp e' x h1
      exact this (decide_eq_true h2)
    | some p =>
      rw [storedH_old e]
      have : ∀ x ∈ kyOf acc ks, putAt (keyOf y) (.bool true) x = x := fun x hx => by
        have v := kyOf_val hx
        unfold putAt
        split
        · rw [← v]
        · rfl
      exact (List.map_congr_left this).trans (List.map_id _)
  · rw [if_neg q, kyOf_append h]
    refine storedH_new ?_ _ _
    unfold atKey
    have : (kyOf acc ks).find? (fun x => decide (x.1 = keyOf y)) = none := by
      rw [List.find?_eq_none]
      intro x hx hh
      refine q (kHas_mem.mpr ?_)
      rw [← kyOf_fst h, ← of_decide_eq_true hh]
      exact List.mem_map.mpr ⟨x, hx, rfl⟩
    rw [this]
    rfl
theorem kyOf_ok {K : PySem.W.Frag} {G H : Hp} (k : Sub G H) : ∀ {acc : List PyData} {ks : List Addr}, AtAll G (ks.map V.ref) acc → (∀ d ∈ acc, keyFit d = true) → ∀ x ∈ kyOf acc ks, KyOk K H x
  | [], [], _, _, x, hx => by simp [kyOf] at hx
  | [], _ :: _, h, _, _, _ => by cases h
  | _ :: _, [], h, _, _, _ => by cases h
  | d :: acc, a :: ks, h, hf, x, hx => by
    have h' : AtAll G (V.ref a :: ks.map V.ref) (d :: acc) := h
    cases h' with
    | cons h1 h2 =>
      rcases List.mem_cons.mp (show x ∈ (keyOf d, a, Value.bool true) :: kyOf acc ks from hx) with e | e
      · subst e
        have f := hf d (by simp)
        unfold keyFit at f
        rw [Bool.and_eq_true, Bool.and_eq_true] at f
        exact ⟨d, rfl, f.1.2, of_decide_eq_true f.2, At.dp' k (keyable_noDict d f.1.2) h1⟩
      · exact kyOf_ok k h2 (fun d hd => hf d (List.mem_cons_of_mem _ hd)) x e
theorem bind_assoc' {α β γ : Type} (m : M α) (f : α → M β) (h : β → M γ) (w : LS) : M.bind (M.bind m f) h w = M.bind m (fun a => M.bind (f a) h) w := by
  show (match (match m w with | .ok a w' => f a w' | .er c d w' => .er c d w' | .no => .no) with | .ok a w' => h a w' | .er c d w' => .er c d w' | .no => .no) = (match m w with | .ok a w' => M.bind (f a) h w' | .er c d w' => .er c d w' | .no => .no)
  cases m w <;> rfl
theorem rd_dcN {P : Program} {wd : World} {K : PySem.W.Frag} {κ : Cl → Addr} {E : XK} {wi : TI} {g : TG} {is vs : List Nat} {fg : PyData → Ev → Option Ev} {tt : TT} {te : TE} {fI : Ev → M (List PyData)} {ft : Ev → M Bool} {fe : Ev → M PyData} (hi : RdI κ E wi fI) (hg : RdG g is fg) (hv : ∀ i ∈ is, i ∈ vs)
    (ht : RdT κ EF tt ft) (he : RdE κ EF te fe) : RdE κ E (tDcN P wd K wi g tt te vs) (dcM vs fg fI ft fe) := by
  intro S G H ρ w σ Q env p
  refine hi S G H ρ w σ _ env (p.bind.imp fun ds w1 G1 H1 x1 s1 h1 J W D hD hm => ?_)
  obtain ⟨hz, h2⟩ := post_if h1
  have env1 := env.ext x1 s1
  have hG1 : G1 D = none := env1.sub.new hD
  have nmu : ¬ Mu S D := s1.mu hD
  have freshW : ∀ us : List Nat, ∀ (k : Nat) (y : List PyData), (wipeE ρ us)[k]? = some (.ow y) → (L2.wipe σ us)[k]? ≠ some (some (.ref D)) := fun us k y e1 e2 => by
    have e2' := (wipe_some e2).1
    have back : ∀ us : List Nat, (wipeE ρ us)[k]? = some (.ow y) → ρ[k]? = some (.ow y) := by
      intro us
      induction us with
      | nil => exact id
      | cons u us ih =>
        intro z
        unfold wipeE at z
        rcases get_set z with ⟨_, q, _⟩ | ⟨_, z'⟩
        · cases q
        · exact ih z'
    obtain ⟨o, e3, l, zs, e4, e5, _⟩ := env1.sl k _ (back us e1)
    rw [e3] at e2'
    rw [e4] at e2'
    have := Option.some.inj (Option.some.inj e2')
    injection this with this
    rw [this, hD] at e5
    cases e5
  have xD := Ext.own (S := S) env1.sub (dkO D (kyEs P wd [])) hD
  have sD := s1.own (dkO D (kyEs P wd [])) hD
  refine ⟨fun i m H' => ∃ w' G' acc ks, m = ds.length - i ∧ i ≤ ds.length ∧ Ext S G1 H1 G' H' ∧ Ent S (wipeE ρ vs) w' (L2.wipe σ vs) G' H' ∧ H' D = some (dkO D (kyEs P wd (kyOf acc ks))) ∧ G' D = none ∧ AtAll G' (ks.map V.ref) acc ∧ acc.length ≤ i ∧ (∀ d ∈ acc, keyFit d = true) ∧ (acc.map keyOf).Nodup ∧
    PostW κ S G1 H1 E ((do let r ← dcL vs fg ft fe ρ (ds.drop i) acc; pure (dkD r)) w') (kV Q), ⟨ds.length, w1, G1, [], [], rfl, Nat.zero_le _, xD, (env1.wipe vs).ext xD sD, upd_same, hG1, .nil, Nat.le_refl _, (fun _ h => absurd h (by simp)), List.nodup_nil, h2⟩, ?_⟩
  rintro i m H' ⟨w', G', acc, ks, rfl, hle, x', env', hH, hG, av, hal, hfit, hnd, p'⟩
  have hkl : ks.length = acc.length := by have := av.len; rw [List.length_map] at this; exact this
  by_cases hlt : i < ds.length
  · have hd : ds[i]? = some ds[i] := List.getElem?_eq_getElem hlt
    obtain ⟨go, yl⟩ := W.go i _ G' H' w' x'.gg env'.sub env'.st hd
    refine .inr ⟨go, fun H2 => ∃ w2 G2 acc ks, Ext S G1 H1 G2 H2 ∧ Ent S (wipeE ρ vs) w2 (L2.wipe σ vs) G2 H2 ∧ H2 D = some (dkO D (kyEs P wd (kyOf acc ks))) ∧ G2 D = none ∧ AtAll G2 (ks.map V.ref) acc ∧ acc.length ≤ i + 1 ∧ (∀ d ∈ acc, keyFit d = true) ∧ (acc.map keyOf).Nodup ∧
      PostW κ S G1 H1 E ((do let r ← dcL vs fg ft fe ρ (ds.drop (i + 1)) acc; pure (dkD r)) w2) (kV Q), ?_, ?_⟩
    · rintro H2 ⟨w2, G2, acc2, xs2, q1, q2, q3, q4, q5, q6, q7, q8, q9⟩
      exact ⟨ds.length - (i + 1), by omega, w2, G2, acc2, xs2, rfl, hlt, q1, q2, q3, q4, q5, q6, q7, q8, q9⟩
    · intro x H2 hy
      obtain ⟨G2, x2, s2, a2⟩ := yl x H2 hy
      have dd : ds.drop i = ds[i] :: ds.drop (i + 1) := List.drop_eq_getElem_cons hlt
      rw [dd] at p'
      have p' : PostW κ S G1 H1 E (M.bind (match fg ds[i] (wipeE ρ vs) with
        | none => M.no
        | some ρ1 => do
          let b ← M.calm (ft ρ1)
          if b = true then (do
            let y ← M.calm (fe ρ1)
            if keyFit y = true then dcL vs fg ft fe ρ (ds.drop (i + 1)) (if kHas acc y = true then acc else acc ++ [y]) else M.no) else dcL vs fg ft fe ρ (ds.drop (i + 1)) acc) (fun r => pure (dkD r)) w') (kV Q) := p'
      cases q : fg ds[i] (wipeE ρ vs) with
      | none => rw [q] at p'; exact p'.elim
      | some ρ1 =>
        rw [q] at p'
        refine hg S G2 H2 (wipeE ρ vs) w' (L2.wipe σ vs) x _ ρ1 _ (env'.ext x2 s2) a2 q fun σ3 env3 b3 hw => ⟨(hw vs hv).trans (wipe_sub vs fun _ h => h), ?_⟩
        have X2 := x'.trans x2
        have p2 : PostW κ S G1 H1 E (M.bind (M.bind (M.calm (ft ρ1)) (fun b => if b = true then (do
            let y ← M.calm (fe ρ1)
            if keyFit y = true then dcL vs fg ft fe ρ (ds.drop (i + 1)) (if kHas acc y = true then acc else acc ++ [y]) else M.no) else dcL vs fg ft fe ρ (ds.drop (i + 1)) acc)) (fun r => pure (dkD r)) w') (kV Q) := p'
        rw [bind_assoc'] at p2
        have p3 : PostW κ S G2 H2 E (M.calm (ft ρ1) w') (fun b w'' _ _ => PostW κ S G1 H1 E (M.bind (if b = true then (do
            let y ← M.calm (fe ρ1)
            if keyFit y = true then dcL vs fg ft fe ρ (ds.drop (i + 1)) (if kHas acc y = true then acc else acc ++ [y]) else M.no) else dcL vs fg ft fe ρ (ds.drop (i + 1)) acc) (fun r => pure (dkD r)) w'') (kV Q)) := PostW.split (m := M.calm (ft ρ1)) p2 X2
        refine ht S G2 H2 ρ1 w' σ3 _ env3 (PostW.imp (PostW.calm p3) fun b w3 G3 H3 x3 s3 h3 => ?_)
        have X3 := X2.trans x3
        have hH2 := x2.hh D _ hH nmu
        have hH3 := x3.hh D _ hH2 nmu
        have hG3 : G3 D = none := by
          rw [x3.nw D (not_none hH2), x2.nw D (not_none hH)]
          exact hG
        cases b with
        | false =>
          refine iteF ?_
          exact ⟨w3, G3, acc, ks, X3, (env'.ext x2 s2).ext x3 s3, hH3, hG3, AtAll.mono (x2.gg.trans x3.gg) acc _ av, by omega, hfit, hnd, h3⟩
        | true =>
          refine iteT ?_
          have h4 : PostW κ S G1 H1 E (M.bind (M.bind (M.calm (fe ρ1)) (fun y => if keyFit y = true then dcL vs fg ft fe ρ (ds.drop (i + 1)) (if kHas acc y = true then acc else acc ++ [y]) else M.no)) (fun r => pure (dkD r)) w3) (kV Q) := h3
          rw [bind_assoc'] at h4
          have h5 : PostW κ S G3 H3 E (M.calm (fe ρ1) w3) (fun y w'' _ _ => PostW κ S G1 H1 E (M.bind (if keyFit y = true then dcL vs fg ft fe ρ (ds.drop (i + 1)) (if kHas acc y = true then acc else acc ++ [y]) else M.no) (fun r => pure (dkD r)) w'') (kV Q)) := PostW.split (m := M.calm (fe ρ1)) h4 X3
          refine he S G3 H3 ρ1 w3 σ3 _ (env3.ext x3 s3) (PostW.imp (PostW.calm h5) fun y w4 G4 H4 x4 s4 h6 yv ay => ?_)
          by_cases hf : keyFit y = true
          · rw [if_pos hf] at h6
            have hH4 := x4.hh D _ hH3 nmu
            have hG4 : G4 D = none := by rw [x4.nw D (not_none hH3)]; exact hG3
            have f := hf
            unfold keyFit at f
            rw [Bool.and_eq_true, Bool.and_eq_true] at f
            cases y with
            | tuple ys =>
              cases ay with
              | tup gy ry =>
                rename_i ya yxs
                have avy : At G4 (.ref ya) (.tuple ys) := .tup gy ry
                have av4 := AtAll.mono ((x2.gg.trans x3.gg).trans x4.gg) acc _ av
                have env4 := ((env'.ext x2 s2).ext x3 s3).ext x4 s4
                have K4 := kyOf_ok (K := K) env4.sub av4 hfit
                refine ⟨kyOf acc ks, keyOf (.tuple ys), ya, rfl, hH4, K4, by rw [kyOf_fst hkl]; exact hnd, by rw [kyOf_len hkl]; omega, ⟨_, rfl, f.1.2, of_decide_eq_true f.2, At.dp' env4.sub (keyable_noDict _ f.1.2) avy⟩, ?_⟩
                rw [kyOf_stored hkl]
                by_cases hh : kHas acc (.tuple ys) = true
                · rw [if_pos hh] at h6 ⊢
                  exact ⟨w4, G4, acc, ks, (X3.trans x4).write hD hG4, env4.beside hG4 nmu (freshW vs), upd_same, hG4, av4, by omega, hfit, hnd, h6⟩
                · rw [if_neg hh] at h6 ⊢
                  refine ⟨w4, G4, acc ++ [.tuple ys], ks ++ [ya], (X3.trans x4).write hD hG4, env4.beside hG4 nmu (freshW vs), upd_same, hG4, ?_, by rw [List.length_append]; exact Nat.succ_le_succ hal, fun d hd => ?_, ?_, h6⟩
                  · rw [List.map_append]
                    exact av4.append (.cons avy .nil)
                  · rcases List.mem_append.mp hd with e | e
                    · exact hfit d e
                    · rw [List.mem_singleton.mp e]; exact hf
                  · rw [List.map_append, List.nodup_append]
                    refine ⟨hnd, by simp, fun a ha b hb e => ?_⟩
                    rw [List.map_cons, List.map_nil, List.mem_singleton] at hb
                    exact hh (kHas_mem.mpr (by rw [← hb, ← e]; exact ha))
            | _ => exact absurd f.1.1 (by simp [isTupD])
          · rw [if_neg hf] at h6
            exact h6.elim
  · have e : i = ds.length := by omega
    subst e
    rw [List.drop_length] at p'
    refine .inl ⟨W.stop G' H' x'.gg env'.sub, ?_⟩
    have p2 : PostW κ S G1 H1 E ((pure (dkD acc) : M PyData) w') (kV Q) := p'
    have gg : Sub G' (upd G' D (dkO D (kyEs P wd (kyOf acc ks)))) := fun a o2 g => by rw [upd_ne (ne_of_none g hG)]; exact g
    refine p2 (upd G' D (dkO D (kyEs P wd (kyOf acc ks)))) H' (x'.freeze hD hH hG) (env'.st.freeze nmu) _ ?_
    refine .dic (ks := ks) upd_same (kyOf_key P wd hkl) ⟨?_, hm⟩ (AtAll.mono gg acc _ av)
    show (kyEs P wd (kyOf acc ks)).size ≤ sizeLine
    unfold kyEs
    rw [List.size_toArray, List.length_map, kyOf_len hkl]
    omega
section
variable {X : Cx} {κ : Cl → Addr} {E : XK} {pos : Pos}
variable {kx tg iter : Expr} {ifs : List Expr} {scope : Scope} {own : List (Str × Nat)} {wi : TI} {g : TG} {tt : TT} {te : TE} {is : List Nat} {fg : PyData → Ev → Option Ev} {fI : Ev → M (List PyData)} {ft : Ev → M Bool} {fe : Ev → M PyData}
theorem ds_setDc (i : Nat) {y : Str} {py spos bp : Pos} {bj} (hu : X.A.units + 8 < cLine) (hc : X.calm = true) (hN : X.N.Nodup) (hi : DI X κ E tg iter wi fI) (ok : BlkOk X.N X.env.scope scope own)
    (hg : ∀ (s : Shared) (H : Hp) (C : Addr) (cl : List (Str × Addr)) (fp : List Addr), DG (X.blk s H scope (compEnvC scope cl C X.env) fp) tg g is fg) (ht : ∀ (s : Shared) (H : Hp) (C : Addr) (cl : List (Str × Addr)) (fp : List Addr), DTs (X.blk s H scope (compEnvC scope cl C X.env) fp) κ EF ifs tt ft)
    (he : ∀ (s : Shared) (H : Hp) (C : Addr) (cl : List (Str × Addr)) (fp : List Addr), DE (X.blk s H scope (compEnvC scope cl C X.env) fp) κ EF kx te fe) (hy : X.N[i]? = some y := by rfl) (hyl : X.env.scope.names.lookup y = some .local := by rfl)
    (hsw : swapsWith (.DictComp kx (.Constant (.bool true) bj bp) [⟨tg, iter, ifs, 0⟩] scope pos) (some (.Name y py)) spos.line X.env = pure true := by exact sw_trueD (by rfl) (by rfl) (by rfl) (by rfl)) (hv : ∀ i ∈ is, i ∈ own.map (·.2) := by decide) (hs : ∀ x, foldedSetIterable iter X.env x = pure x := by intro _; rfl) :
    DS X κ E (.Assign [.Name y py] (.DictComp kx (.Constant (.bool true) bj bp) [⟨tg, iter, ifs, 0⟩] scope pos) spos) (tAsg (tDcN X.prog X.w X.K wi g tt te (own.map (·.2))) (gName i)) (setM i (dcM (own.map (·.2)) fg fI ft fe)) :=
  ⟨ps_setDcN hu hc hN hy hyl hsw hi.p ok (fun s H C cl fp => (hg s H C cl fp).p) (fun s H C cl fp => (ht s H C cl fp).p) (fun s H C cl fp => (he s H C cl fp).p) (fun s H C cl fp => pe_bl) hs,
    rd_set i (rd_dcN hi.r (hg X.s_0 (fun _ => none) 0 [] []).r hv (ht X.s_0 (fun _ => none) 0 [] []).r (he X.s_0 (fun _ => none) 0 [] []).r)⟩
end
end Wh

namespace Wh
open PySem PySem.Spec PyProof.Rows L2

/-! ### the classes of exceptions -/
theorem oexC_of {K : PySem.W.Frag} {x : Str} (h : exB K x = true) : OexC K (He.ga K x) := by
  unfold exB at h
  rw [Bool.and_eq_true, Bool.and_eq_true, Bool.and_eq_true, Bool.and_eq_true] at h
  obtain ⟨h0, h1, h2, h3, h4⟩ := h
  refine ⟨?_, of_decide_eq_true h1, of_decide_eq_true h2, of_decide_eq_true h3, h4⟩
  split at h0
  · rename_i t od cd sl hl
    rw [Bool.and_eq_true, Bool.and_eq_true, Bool.and_eq_true, Bool.and_eq_true] at h0
    obtain ⟨g0, g1, g2, g3, g4⟩ := h0
    obtain ⟨nm, bs, mro, ns, qn, hd, sn, sb, ab, col, del⟩ := cd
    dsimp only at g1 g2 g3
    split at g1
    · rename_i c bm
      rw [Bool.and_eq_true] at g1
      split at g4
      · rename_i k0 k1 k2 k3 n k5 hs
        have e0 := of_decide_eq_true g0
        have e1 := of_decide_eq_true g1.1
        have e4 := of_decide_eq_true g4
        have es : sl = #[k0, k1, k2, k3, some (.builtin n), k5] := by
          rw [← Array.toArray_toList (xs := sl), hs]
        have ed : del = false := by cases del with | true => cases g3 | false => rfl
        subst e0 e1 e4 es ed g2
        exact ⟨nm, qn, ns, bs, bm, sn, sb, ab, col, od, k0, k1, k2, k3, k5, hl, g1.2⟩
      · cases g4
    · cases g1
  · cases h0
structure IniC (K : PySem.W.Frag) (x f : Str) : Prop where
  T : OexC K (He.ga K x)
  i : PySem.W.findIn K (.ref (He.ga K x)) "__init__" = some (some (.ref (He.ma K (He.ga K x) "__init__")))
  t : PySem.W.typeIn K (.ref (He.ma K (He.ga K x) "__init__")) = some (.type "function")
  f : PySem.W.findIn K (.ref (He.ga K x)) f = some none
  xf : XfC K (He.ga K x)
theorem iniC_of {K : PySem.W.Frag} {x f : Str} (h : exB K x = true) (h2 : inB K x f = true) : IniC K x f := by
  unfold inB at h2
  rw [Bool.and_eq_true, Bool.and_eq_true, Bool.and_eq_true] at h2
  exact ⟨oexC_of h, of_decide_eq_true h2.1, of_decide_eq_true h2.2.1, of_decide_eq_true h2.2.2.1, xfB_ok h2.2.2.2⟩
structure SayC (K : PySem.W.Frag) : Prop where
  r : PySem.W.readsIn K (He.ga K "SayError") (.type "type") = true
  g : PySem.W.specialIn K (.ref (He.ga K "SayError")) "__getattribute__" = some (some (.builtin "type.__getattribute__"))
  i : PySem.W.findCls K (.ref (He.ga K "SayError")) (.type "type") "__init__" = some (.val (.builtin "ValueError.__init__"))
theorem sayC_of {K : PySem.W.Frag} (h : saB K = true) : SayC K := by
  unfold saB at h
  rw [Bool.and_eq_true, Bool.and_eq_true] at h
  obtain ⟨h1, h2, h3⟩ := h
  refine ⟨h1, of_decide_eq_true h2, ?_⟩
  split at h3
  · rename_i n hn
    rw [hn, of_decide_eq_true h3]
  · cases h3
structure ExcK (K : PySem.W.Frag) : Prop where
  bs : IniC K "BadSet" "place"
  un : IniC K "Unlike" "value"
  tg : IniC K "TooGreat" "most"
  say : SayC K
  em : ∀ x ∈ clB, ∀ y ∈ clB, PySem.W.exmOne K (.ref (He.ga K x)) (.ref (He.ga K y)) = some (decide (x = y))
theorem excK_of {K : PySem.W.Frag} (h : ex K = true) : ExcK K := by
  unfold ex at h
  rw [Bool.and_eq_true, Bool.and_eq_true, Bool.and_eq_true, Bool.and_eq_true, Bool.and_eq_true, Bool.and_eq_true, Bool.and_eq_true] at h
  obtain ⟨⟨a1, a2, a3⟩, ⟨b1, b2, b3⟩, c, d⟩ := h
  refine ⟨iniC_of a1 b1, iniC_of a2 b2, iniC_of a3 b3, sayC_of c, fun x hx y hy => ?_⟩
  exact of_decide_eq_true (List.all_eq_true.mp (List.all_eq_true.mp d x hx) y hy)

/-! ### SayError.__init__(self, ..) -/
section
variable {X : Cx} {e : Expr} {es : List Expr} {ta : TA} {p1 p2 pos : Pos}
theorem pe_sayinit {pl : Sem Bool} (hg : Gl X "SayError") (hm : X.mg "SayError" = some (.ref (He.ga X.K "SayError"))) (sc : SayC X.K) (ha : PA X (e :: es) ta)
    (hc : eval (.Call (.Attribute (.Name "SayError" p1) "__init__" p2) (e :: es) [] pos) X.env = (do
      let ov ← eval (.Name "SayError" p1) X.env
      standAt p2.atName
      let (f, first) ← holding [ov] (getMethod ov "__init__" pl)
      callWith pos f first (backTo pos (starEach (e :: es) X.env)) (backToKw pos (keywordEach [] X.env))) := by rfl)
    (he : starEach (e :: es) X.env = (false, eval e X.env) :: starEach es X.env := by rfl) (hpl : (backTo pos (starEach es X.env)).any (·.1) = false := by rfl) :
    PE X (.Call (.Attribute (.Name "SayError" p1) "__init__" p2) (e :: es) [] pos) (tVeI X.K ta) := by
  refine ⟨fun pins s σ H Q I h => ?_⟩
  refine PySem.W.methodCall_KW (ld_glob I hg hm ?_ (by decide)) hc
  refine PySem.W.method_cls I.kIn sc.g (PySem.W.cls_value I.kIn sc.r sc.i (by decide +kernel) ?_)
  show wpAny _ _ (callWith pos (Value.builtin "ValueError.__init__") [] (backTo pos (starEach (e :: es) X.env)) []) _ _ _
  refine PyProof.Rows.callWith_method1 (thn (ha.run pos pins _ σ H _ (I.tok _) h) fun us s1 ⟨vs, H1, I1, r1, a, C, ws, ev, hl, T, ea, q⟩ => ?_) he hpl
  subst ev
  cases r1 with
  | @cons _ u0 _ ur ra rw' =>
    obtain rfl : u0 = Value.ref a := ra
    have hlen : ur.length ≤ sizeLine := by
      rw [← Paired.length rw', sizeLine_eq]
      omega
    exact oinit_ok T I1 ea hlen fun s' J => ⟨.non, H1, J, rfl, q⟩
end

/-! ### C(v): its __init__ -/
def spI (C : Addr) (f : Str) : Sp := fun vs H Q E => ∃ (a : Addr) (v : V), vs = [.ref a, v] ∧ H a = some (exo a C none) ∧ ∀ dx, H dx = none → dx ≠ a → Q .non (upd (upd H dx (exd dx [(f, v)])) a (exo a C (some dx)))
theorem ini_ok {CX : CXT} {P : Program} {w : World} {K : PySem.W.Frag} {mg : Str → Option Value} {base : Heap} {x q f p msg : Str} {params : Arguments} {scope : Scope} {fI : Addr} {fd : FuncData} {p1 p2 p3 p4 p5 p6 p7 p8 p9 p10 : Pos} {j}
    (IC : IniC K x f)
    (F : FunD K "__init__" q params [.Expr (.Call (.Attribute (.Name "SayError" p1) "__init__" p2) [.Name "self" p3, .Constant (.str msg) j p4] [] p5) p6, .Assign [.Attribute (.Name "self" p7) f p8] (.Name p p9) p10] scope [] [] fI fd)
    (S : FnScope ["self", p] ["self", p] scope) (hs : scope.names.lookup ("self" : Str) = some .local) (hp : scope.names.lookup p = some .local)
    (hpd : (p == ("__debug__" : Str)) = false) (hpc : (p == ("__classdict__" : Str)) = false)
    (h1 : ∀ (cdv : Value) (A : Around) (outer : List PySem.Env) (s : Shared) (H : Hp) (E : XK), PE (cxOf CX P w K mg base ["self", p] q scope fI cdv A outer s H E) (.Call (.Attribute (.Name "SayError" p1) "__init__" p2) [.Name "self" p3, .Constant (.str msg) j p4] [] p5) (tVeI K (tCons (tVar 0) (tCons (tC (.str msg)) tNil)))) :
    FnOk P w K mg base CX 1 fI fd ["self", p] (spI (He.ga K x) f) := by
  refine F.ok (k := 0) S (fun vs H Q E ⟨_, _, e, _⟩ => by rw [e]; rfl) fun cdv A outer s H vs Q E hr ⟨a, v, ev, ea, qq⟩ => ?_
  subst ev
  have vs0 : ∀ pos, PE (cxOf CX P w K mg base ["self", p] q scope fI cdv A outer s H E) (.Name "self" pos) (tVar 0) := fun pos => pe_var rfl (.inl hs) (by decide) (by decide)
  have vs1 : ∀ pos, PE (cxOf CX P w K mg base ["self", p] q scope fI cdv A outer s H E) (.Name p pos) (tVar 1) := fun pos => pe_var rfl (.inl hp) hpd hpc
  refine ⟨_, pss_cons (ps_expr (h1 ..)) (pss_one (ps_ost (vs0 p7) (vs1 p9))), ?_⟩
  refine ⟨_, rfl, a, He.ga K x, _, rfl, by show 1 ≤ 1000; decide, IC.T, ea, ?_⟩
  exact ⟨v, rfl, .ref a, rfl, a, He.ga K x, rfl, IC.T, IC.f, .inl ⟨ea, fun dx n ne => qq dx n ne⟩⟩

/-! ### raise C(e) -/
def raiseM (c : Cl) (f : Ev → M PyData) (ρ : Ev) : M Fl := do
  let d ← f ρ
  M.raise c d
theorem upd_twice {H : Hp} {a dx : Addr} {o1 o2 o3 : HO} {u : HO} (ha : H a = none) (ne : dx ≠ a) : upd (del (upd (upd (upd H a o1) dx o2) a o3) a) dx u = upd H dx u := by
  funext b
  by_cases h : b = dx
  · rw [h, upd_same, upd_same]
  · rw [upd_ne h, upd_ne h]
    by_cases h2 : b = a
    · rw [h2, del_same, ha]
    · rw [del_ne h2, upd_ne h2, upd_ne h, upd_ne h2]
theorem rd_raise {κ : Cl → Addr} {E : XK} {te : TE} {f : Ev → M PyData} {c : Cl} (h : RdE κ E te f) : RdS κ E (fun _ σ H => tMkO (κ c) (spI (κ c) (fld c)) [] (tCons te tNil) σ H fun cls d H' => E cls d H') (raiseM c f) := by
  intro S G0 H0 G H ρ w σ D env b p
  refine h S G H ρ w σ _ env ((SPost.split p b.ext).imp fun d w1 G1 H1 x1 s1 h1 v av => ?_)
  refine ⟨by show 1 ≤ 1000; decide, fun a ha => ?_⟩
  rw [List.append_nil]
  refine ⟨a, v, rfl, upd_same, fun dx n ne => ?_⟩
  have hn : H1 dx = none := by rw [upd_ne ne] at n; exact n
  have n2 : upd (upd (upd H1 a (exo a (κ c) none)) dx (exd dx [(fld c, v)])) a (exo a (κ c) (some dx)) dx = some (exd dx [(fld c, v)]) := by rw [upd_ne ne, upd_same]
  refine ⟨rfl, dx, [(fld c, v)], upd_same, n2, hn, ?_⟩
  rw [upd_twice ha ne]
  have env1 := env.ext x1 s1
  have xo := Ext.own (S := S) env1.sub (.xd [(fld c, v)]) hn
  exact h1 v dx G1 _ ((b.next x1).ext.trans xo) (s1.own _ hn) av upd_same (env1.sub.new hn)
section
variable {X : Cx} {κ : Cl → Addr} {E : XK} {pos : Pos} {e : Expr} {te : TE} {f : Ev → M PyData}
theorem ds_raise (c : Cl) {CX : CXT} {x : Str} {k : Nat} {fd : FuncData} {p : Str} {pn pos2 : Pos} (hc : X.calm = true) (tk : Takes X (fun c d _ H' => E c d H')) (hκ : κ c = He.ga X.K x) (IC : IniC X.K x (fld c)) (F1 : FnOk X.prog X.w X.K X.mg X.base CX k (He.ma X.K (He.ga X.K x) "__init__") fd ["self", p] (spI (He.ga X.K x) (fld c))) (hr : Room (k + 1) X.A)
    (hb : Binds X.K fd ["self", p] []) (hx : Passes CX X EF) (hg : Gl X x) (hm : X.mg x = some (.ref (He.ga X.K x))) (he : DE X κ E e te f) (hdb : (x == ("__debug__" : Str)) = false := by decide) (hst : starEach [e] X.env = (false, eval e X.env) :: starEach [] X.env := by rfl) :
    DS X κ E (.Raise (some (.Call (.Name x pn) [e] [] pos)) none pos2) (fun _ σ H => tMkO (κ c) (spI (κ c) (fld c)) [] (tCons te tNil) σ H fun cls d H' => E cls d H') (raiseM c f) := by
  refine ⟨?_, rd_raise he.r⟩
  rw [hκ]
  exact ps_raise hc tk (pmk_oex IC.T IC.i IC.t F1 hr hb .nil hx hg hm (pa_cons he.p pa_nil hst) hdb hst)
end
end Wh

namespace Wh
open PySem PySem.Spec PyProof.Rows L2

/-! ### several except clauses, some with a name -/
abbrev Clause := Value × Option Nat × (Addr → Value → Option Addr → TS)
def wManyA (K : PySem.W.Frag) (Wout : WX) (D : Ends) : List Clause → WX
  | [] => Wout
  | (c, some i, ts) :: r => fun cls d σ H => ∃ b, PySem.W.exmOne K cls c = some b ∧ (b = true → ∀ a, H a = none → ts a cls d { nx := fun σ' H' => D.nx (σ'.set i none) H', rt := D.rt, bk := fun σ' H' => D.bk (σ'.set i none) H', ct := fun σ' H' => D.ct (σ'.set i none) H' } (σ.set i (some (.ref a))) H) ∧ (b = false → wManyA K Wout D r cls d σ H)
  | (c, none, ts) :: r => fun cls d σ H => ∃ b, PySem.W.exmOne K cls c = some b ∧ (b = true → ∀ a, H a = none → ts a cls d D σ H) ∧ (b = false → wManyA K Wout D r cls d σ H)
inductive HdsA (X : Cx) : List ExceptHandler → List Clause → Prop
  | nil : HdsA X [] []
  | consA {x n : Str} {i : Nat} {c : Value} {ts : Addr → Value → Option Addr → TS} {b₀ : Stmt} {suite : List Stmt} {np pos' : Pos} {hds : List ExceptHandler} {l : List Clause} (hc : Names X x c) (hi : X.N[i]? = some n) (hln : X.env.kindOf n = some .local)
      (hsu : ∀ (a : Addr) (oe : Obj) (cls : Value) (d : Option Addr) (pn : List (Addr × Obj)), Zc cls d oe → (∃ vs, oe.data = .fields vs) → PSs (X.suite a ((a, oe) :: pn)) (b₀ :: suite) (ts a cls d)) (r : HdsA X hds l) :
      HdsA X (.ExceptHandler (some (.Name x np)) (some n) (b₀ :: suite) pos' :: hds) ((c, some i, ts) :: l)
  | cons {x : Str} {c : Value} {ts : Addr → Value → Option Addr → TS} {b₀ : Stmt} {suite : List Stmt} {np pos' : Pos} {hds : List ExceptHandler} {l : List Clause} (hc : Names X x c)
      (hsu : ∀ (a : Addr) (oe : Obj) (cls : Value) (d : Option Addr) (pn : List (Addr × Obj)), Zc cls d oe → (∃ vs, oe.data = .fields vs) → PSs (X.suite a ((a, oe) :: pn)) (b₀ :: suite) (ts a cls d)) (r : HdsA X hds l) :
      HdsA X (.ExceptHandler (some (.Name x np)) none (b₀ :: suite) pos' :: hds) ((c, none, ts) :: l)
section
variable {X : Cx} {body : List Stmt} {h₀ : ExceptHandler} {hds : List ExceptHandler} {l : List Clause} {pos : Pos} {tb : WX → TS} {Wout : WX}
theorem ps_try_manyA (hs : X.stack = X.env :: X.outer) (hf : X.env.frame = some X.env.locals) (hN : X.N.Nodup) (tk : Takes X Wout)
    (hb : ∀ (W : WX) (pn : List (Addr × Obj)) (xe : Value → Shared → Prop), Takes (X.tr pn xe) W → PassesOwn (model X.prog X.w) X.A X.env xe → PSs (X.tr pn xe) body (tb W))
    (hh : HdsA X (h₀ :: hds) l) : PS X (.Try body (h₀ :: hds) [] [] pos) (fun D σ H => tb (wManyA X.K Wout D l) D σ H) := by
  refine ⟨fun pins s σ H D I h => ?_⟩
  have ok := I.ok
  have hfr : X.A.frames = some (X.env :: X.outer) := by rw [ok.frames, hs]
  refine wpAny_Try_except ?_
  refine wpAny_mono ((hb (wManyA X.K Wout D l) (X.pn ++ pins) (fun e s₁ => wpAny (model X.prog X.w) X.A (noteFrame e X.env) (fun _ s₂ => wpAny (model X.prog X.w) X.A (setFlight e none) (fun _ s₃ =>
    wpAny (model X.prog X.w) X.A (handleBy e X.env (h₀ :: hds)) (SP X pins D) X.xe s₃) X.xe s₂) X.xe s₁) (fun u s' xx => ?_) PassesOwn.looking).run [] s σ H D (I.toTry _) h) (fun f s1 hsp => ?_) (fun e s1 he => he)
  · obtain ⟨a, B, sI, pins', σ', H', cls, d, rfl, J', nb, up, sky, na, os, ag, w⟩ := xx
    have J : Inv X pins σ' H' sI := J'.ofTry ok
    have sky' : Sky B (X.env :: X.outer) a (Zc cls d) X.env.locals s'.heap := by rw [← hs]; exact sky
    show wpAny (model X.prog X.w) X.A (noteFrame (.ref a) X.env) _ _ _
    refine Sky.land Zc.steady hfr hf sky' fun h3 fl3 up3 => ?_
    have J3 : Inv X pins σ' H' { s' with heap := h3 } := J.landed nb fl3.1 (up.trans up3) os ag
    obtain ⟨oe3, vs3, he3, hz3, hd3⟩ := fl3.there
    have notFr : ∀ {h : Heap} {o : Obj} {vs : Array Value}, h.FunFrames B (X.env :: X.outer) → h.get? a = some o → o.data = .fields vs → a ∉ frs (X.env :: X.outer) := fun {h o vs} ff e dd hm => by
      obtain ⟨_, o', e', hnf⟩ := ff.mem hm
      rw [e] at e'; cases e'
      exact hnf _ dd
    have nfr := notFr fl3.2.2.1 he3 hd3
    have nL : a ≠ X.env.locals := fun z => nfr (List.mem_filterMap.mpr ⟨X.env, List.mem_cons_self, by rw [hf, z]⟩)
    have nF : a ∉ X.fs := fun hm => by
      obtain ⟨e, he, q⟩ := List.mem_filterMap.mp hm
      exact nfr (List.mem_filterMap.mpr ⟨e, List.mem_cons_of_mem _ he, q⟩)
    have S3 := J3.suite he3 hd3 na nL nF
    have LT : PySem.W.Looks (model X.prog X.w) h3 (typeOf (.ref a)) cls := fun A Q E s k q => wpAny_typeOf_ref (k _ _ he3) (by rw [hz3.1]; exact q)
    have test : ∀ {x : Str} {c : Value} {np : Pos}, Names X x c → ∀ {Q : Value → Shared → Prop} {E : Value → Shared → Prop}, Q c { s' with heap := h3 } → wpAny (model X.prog X.w) (X.A.mark (some (.ref a))) (eval (.Name x np) X.env) Q E { s' with heap := h3 } := fun {x c np} hc {Q E} q => by
      obtain ⟨hg, hdbg, hm | ⟨hm, hv, hnn⟩⟩ := hc
      · exact ld_glob (X := X.suite a ((a, oe3) :: (X.pn ++ pins))) S3 hg hm q hdbg
      · exact ld_blt (X := X.suite a ((a, oe3) :: (X.pn ++ pins))) S3 hg hm hv q hnn hdbg
    have go : ∀ {hds' : List ExceptHandler} {l' : List Clause}, HdsA X hds' l' → wManyA X.K Wout D l' cls d σ' H' →
        wpAny (model X.prog X.w) X.A (handleBy (.ref a) X.env hds') (SP X pins D) X.xe { s' with heap := h3 } := by
      intro hds' l' hk
      induction hk with
      | nil =>
        intro w
        refine wpAny_handleBy_nil ?_
        obtain ⟨k1, k2, k3, oe, vs, T, oT, ts', he, hz, hd, h1, hr⟩ := id fl3
        unfold PySem.passOn
        refine wpAny_bind (wpAny_field he hd h1 ?_)
        rw [if_neg (show ¬ ((Value.ref T == Value.none) = true) from by simp)]
        have fin : wpAny (model X.prog X.w) X.A (setFlight (.ref a) X.env.frame) (fun _ s4 => wpAny (model X.prog X.w) X.A (throw (.ref a) : Sem Flow) (SP X pins D) X.xe s4) X.xe { s' with heap := h3 } := by
          rw [hf]
          refine HandSPX.setFlight_upZ fl3 fun h4 hh4 up4 => wpAny_throw (tk _ _ ?_)
          exact ⟨a, B, sI, pins, σ', H', cls, d, rfl, J, nb, (up.trans up3).trans up4, .inr (.inr (by rw [hs]; exact hh4)), na, os, ag, w⟩
        first
          | exact wpAny_bind (wpAny_pure (wpAny_bind fin))
          | exact wpAny_bind fin
      | @consA x n i c ts b₀ suite np pos' hds2 l2 hc hi hln hsu r ih =>
        intro w
        obtain ⟨b, hb1, hyes, hno⟩ := w
        have hloc : Loc X.env.scope n := .inl hln
        refine wpAny_handleBy_cons (codeAny_handlers_test ?_) (by intro q; cases q)
        have LM := PySem.W.exm_one (M := model X.prog X.w) (J3.kIn) LT hb1
        refine test hc (LM.here ?_)
        cases b with
        | true =>
          refine codeAny_handlers_suite_as ?_
          refine HandSPX.lands_againZ fl3 fun h4 fl4 up4 => ?_
          have J4 : Inv X pins σ' H' { s' with heap := h4 } := J.landed nb fl4.1 ((up.trans up3).trans up4) os ag
          obtain ⟨oe4, vs4, he4, hz4, hd4⟩ := fl4.there
          have S4 := J4.suite he4 hd4 na nL nF
          refine store_ok (X := X.suite a ((a, oe4) :: (X.pn ++ pins))) (v := .ref a) S4 hN hi hloc rfl (fun s5 S5 => ?_) (.inr hln)
          refine wpAny_mono ((hsu a oe4 cls d (X.pn ++ pins) hz4 ⟨_, hd4⟩).run [] s5 _ H' _ S5 (hyes rfl a na)) (fun f s6 hsp => ?_) (fun _ _ z => False.elim z)
          have end_ : ∀ {σ6 : L2.St} {H6 : Hp} {Q : Shared → Prop}, Inv (X.suite a ((a, oe4) :: (X.pn ++ pins))) [] σ6 H6 s6 → (∀ s7, Inv X pins (σ6.set i none) H6 s7 → Q s7) →
              wpAny (model X.prog X.w) X.A (do bindName X.env n .none; unbindBehindTheSuite X.env n pos') (fun _ s7 => Q s7) X.xe s6 := fun {σ6 H6 Q} S6 hq => gone_ok (S6.unsuite ok) hN hi hln hq
          cases f with
          | next =>
            obtain ⟨σ6, H6, S6, q6⟩ := hsp
            exact end_ S6 fun s7 J7 => ⟨_, _, J7, q6⟩
          | brk =>
            obtain ⟨σ6, H6, S6, q6⟩ := hsp
            exact end_ S6 fun s7 J7 => ⟨_, _, J7, q6⟩
          | cont =>
            obtain ⟨σ6, H6, S6, q6⟩ := hsp
            exact end_ S6 fun s7 J7 => ⟨_, _, J7, q6⟩
          | ret u =>
            obtain ⟨v6, σ6, H6, S6, r6, q6⟩ := hsp
            exact end_ S6 fun s7 J7 => ⟨_, _, _, J7, r6, q6⟩
        | false =>
          show wpAny _ X.A (handleBy (.ref a) X.env hds2) _ _ _
          exact ih (hno rfl)
      | @cons x c ts b₀ suite np pos' hds2 l2 hc hsu r ih =>
        intro w
        obtain ⟨b, hb1, hyes, hno⟩ := w
        refine wpAny_handleBy_cons (codeAny_handlers_test ?_) (by intro q; cases q)
        have LM := PySem.W.exm_one (M := model X.prog X.w) (J3.kIn) LT hb1
        refine test hc (LM.here ?_)
        cases b with
        | true =>
          refine codeAny_handlers_suite ?_
          refine HandSPX.lands_againZ fl3 fun h4 fl4 up4 => ?_
          have J4 : Inv X pins σ' H' { s' with heap := h4 } := J.landed nb fl4.1 ((up.trans up3).trans up4) os ag
          obtain ⟨oe4, vs4, he4, hz4, hd4⟩ := fl4.there
          have S4 := J4.suite he4 hd4 na nL nF
          refine wpAny_mono ((hsu a oe4 cls d (X.pn ++ pins) hz4 ⟨_, hd4⟩).run [] _ _ H' _ S4 (hyes rfl a na)) (fun f s6 hsp => ?_) (fun _ _ z => False.elim z)
          cases f with
          | next =>
            obtain ⟨σ6, H6, S6, q6⟩ := hsp
            exact ⟨_, _, S6.unsuite ok, q6⟩
          | brk =>
            obtain ⟨σ6, H6, S6, q6⟩ := hsp
            exact ⟨_, _, S6.unsuite ok, q6⟩
          | cont =>
            obtain ⟨σ6, H6, S6, q6⟩ := hsp
            exact ⟨_, _, S6.unsuite ok, q6⟩
          | ret u =>
            obtain ⟨v6, σ6, H6, S6, r6, q6⟩ := hsp
            exact ⟨_, _, _, S6.unsuite ok, r6, q6⟩
        | false =>
          show wpAny _ X.A (handleBy (.ref a) X.env hds2) _ _ _
          exact ih (hno rfl)
    exact go hh w
  · cases f with
    | next =>
      obtain ⟨σ', H', J', q⟩ := hsp
      exact wpAny_execs_nil ⟨σ', H', J'.ofTry ok, q⟩
    | brk =>
      obtain ⟨σ', H', J', q⟩ := hsp
      exact ⟨σ', H', J'.ofTry ok, q⟩
    | cont =>
      obtain ⟨σ', H', J', q⟩ := hsp
      exact ⟨σ', H', J'.ofTry ok, q⟩
    | ret u =>
      obtain ⟨v, σ', H', J', r, q⟩ := hsp
      exact ⟨v, σ', H', J'.ofTry ok, r, q⟩
end
end Wh

namespace Wh
open PySem PySem.Spec PyProof.Rows L2

/-! ### a call whose exceptions go to a wish over the slots -/
section
variable {X : Cx} {W : WX} {k : Nat} {f : Addr} {fd : FuncData} {ps : List Str} {sp : Sp} {x : Str} {p pos : Pos} {e : Expr} {es : List Expr} {t : TA}
theorem pe_callW (tk : Takes X W) (F : FnG X.prog X.w X.K X.mg X.base k f fd ps sp) (hgd : X.A.guards = some []) (hr : Room k X.A) (hg : Gl X x) (hm : X.mg x = some (.ref f)) (hk : PySem.W.keepIn X.K (.ref f) = true) (hb : Binds X.K fd ps [])
    (ha : PA X (e :: es) t) (hdb : (x == ("__debug__" : Str)) = false := by decide) (he : starEach (e :: es) X.env = (false, eval e X.env) :: starEach es X.env := by rfl) (hpl : (backTo pos (starEach es X.env)).any (·.1) = false := by rfl) :
    PE X (.Call (.Name x p) (e :: es) [] pos) (fun σ H Q => t σ H fun vs H1 => sp vs H1 Q (fun c d H' => W c d σ H')) := ⟨fun pins s σ H Q I h =>
  wpAny_Call_Name_kw (ld_glob I hg hm (PySem.W.callWith_K (h₀ := X.base) I.ok.mod.kin hk (thn (ha.run pos pins s σ H _ I h) fun us s1 ⟨vs, H1, I1, r, q⟩ => ⟨I1.kIn, by
    have n1 : us.length = ps.length := by rw [← r.length, F.len _ _ _ _ q]
    have bt := hb s1 us I1.kIn (by rw [List.append_nil]; exact n1)
    rw [List.append_nil] at bt
    have go := F.run X.A X.stack s1 H1 ⟨us, []⟩ us vs Q (fun c d H' => W c d σ H') hgd hr I1.env0 bt r q
    refine wpAny_call (codeAny_mono go fun res s2 out => ?_)
    match res, out with
    | .error er, out => exact tk er s2 (XE.of_call I1 (fun cls d H' h => h) out)
    | .ok (.ret u), out => exact I1.after out
    | .ok .next, out => exact out.elim
    | .ok .brk, out => exact out.elim
    | .ok .cont, out => exact out.elim⟩) he hpl) hdb)⟩
end
/-- the body of a try: a value that is dropped -/
def PostB (κ : Cl → Addr) (S : Option SA) (G H : Hp) (W : WX) (σ : L2.St) (N : Hp → Prop) (r : R PyData) : Prop := match r with
  | .ok _ w' => ∀ G' H', Ext S G H G' H' → StAt S G' H' w' → N H'
  | .er c d w' => ErW κ S G H (fun cl x H' => W cl x σ H') c d w'
  | .no => False
def RdB (κ : Cl → Addr) (tb : WX → TS) (m : Ev → M PyData) : Prop := ∀ S G H ρ w σ W D, Ent S ρ w σ G H → (match m ρ w with
  | .ok _ w' => ∀ G' H', Ext S G H G' H' → StAt S G' H' w' → D.nx σ H'
  | .er c d w' => ErW κ S G H (fun cl x H' => W cl x σ H') c d w'
  | .no => False) → tb W D σ H
theorem rd_bcall {κ : Cl → Addr} {n : Nat} {F : List Sl → M PyData} {t : TA} {fA : Ev → M (List Sl)} (h : ∀ E, RdA κ E t fA) :
    RdB κ (fun W => tDrop (fun σ H Q => t σ H fun vs H1 => spD κ n (lenM n F) vs H1 Q (fun c d H' => W c d σ H'))) (defM (lenM n F) fA) := by
  intro S G H ρ w σ W D env p
  refine rd_callG (κ := κ) (E := fun c d H' => W c d σ H') (n := n) (F := F) (h _) S G H ρ w σ (fun _ H' => D.nx σ H') env ?_
  cases q : defM (lenM n F) fA ρ w with
  | ok d w' =>
    rw [q] at p
    exact fun G' H' x s v _ => p G' H' x s
  | er c d w' =>
    rw [q] at p
    exact p
  | no =>
    rw [q] at p
    exact p.elim
def pickM (g : Ev → M Bool) (m1 m2 : Ev → M PyData) (ρ : Ev) : M PyData := do
  let k ← g ρ
  if k = true then m1 ρ else m2 ρ
theorem rd_bif {κ : Cl → Addr} {tc : TT} {g : Ev → M Bool} {t1 t2 : WX → TS} {m1 m2 : Ev → M PyData} (hc : ∀ E, RdT κ E tc g) (h1 : RdB κ t1 m1) (h2 : RdB κ t2 m2) : RdB κ (fun W => tIfS tc (t1 W) (t2 W)) (pickM g m1 m2) := by
  intro S G H ρ w σ W D env p
  have p' : (match M.bind (g ρ) (fun k => if k = true then m1 ρ else m2 ρ) w with
    | .ok _ w' => ∀ G' H', Ext S G H G' H' → StAt S G' H' w' → D.nx σ H'
    | .er c d w' => ErW κ S G H (fun cl x H' => W cl x σ H') c d w'
    | .no => False) := p
  unfold M.bind at p'
  refine hc (fun c d H' => W c d σ H') S G H ρ w σ _ env ?_
  cases q : g ρ w with
  | ok k w1 =>
    rw [q] at p'
    intro G1 H1 x1 s1
    have env1 := env.ext x1 s1
    cases k with
    | true =>
      refine iteT (h1 S G1 H1 ρ w1 σ W D env1 ?_)
      have p2 : (match m1 ρ w1 with
        | .ok _ w' => ∀ G' H', Ext S G H G' H' → StAt S G' H' w' → D.nx σ H'
        | .er c d w' => ErW κ S G H (fun cl x H' => W cl x σ H') c d w'
        | .no => False) := p'
      cases z : m1 ρ w1 with
      | ok d w' => rw [z] at p2; exact fun G' H' x s => p2 G' H' (x1.trans x) s
      | er c d w' => rw [z] at p2; exact ErW.mono p2 x1
      | no => rw [z] at p2; exact p2
    | false =>
      refine iteF (h2 S G1 H1 ρ w1 σ W D env1 ?_)
      have p2 : (match m2 ρ w1 with
        | .ok _ w' => ∀ G' H', Ext S G H G' H' → StAt S G' H' w' → D.nx σ H'
        | .er c d w' => ErW κ S G H (fun cl x H' => W cl x σ H') c d w'
        | .no => False) := p'
      cases z : m2 ρ w1 with
      | ok d w' => rw [z] at p2; exact fun G' H' x s => p2 G' H' (x1.trans x) s
      | er c d w' => rw [z] at p2; exact ErW.mono p2 x1
      | no => rw [z] at p2; exact p2
  | er c d w' =>
    rw [q] at p'
    exact p'
  | no =>
    rw [q] at p'
    exact p'.elim
structure DB (X : Cx) (κ : Cl → Addr) (body : List Stmt) (tb : WX → TS) (m : Ev → M PyData) : Prop where
  p : ∀ (W : WX) (pn : List (Addr × Obj)) (xe : Value → Shared → Prop), Takes (X.tr pn xe) W → PassesOwn (model X.prog X.w) X.A X.env xe → PSs (X.tr pn xe) body (tb W)
  r : RdB κ tb m
section
variable {X : Cx} {κ : Cl → Addr} {pos : Pos}
theorem db_call {k : Nat} {a : Addr} {fd : FuncData} {ps : List Str} {F : List Sl → M PyData} {x : Str} {p sp : Pos} {e : Expr} {es : List Expr} {t : TA} {fA : Ev → M (List Sl)} (hgd : X.A.guards = some []) (G : FnD κ X.prog X.w X.K X.mg X.base k a fd ps F) (hr : Room k X.A) (hk : PySem.W.keepIn X.K (.ref a) = true) (hb : Binds X.K fd ps [])
    (hm : X.mg x = some (.ref a)) (hg : Gl X x) (ha : ∀ (pn : List (Addr × Obj)) (xe : Value → Shared → Prop) (E : XK), DA (X.tr pn xe) κ E (e :: es) t fA)
    (hs : swapsWith (.Call (.Name x p) (e :: es) [] pos) none sp.line X.env = pure false := by rfl)
    (hdb : (x == ("__debug__" : Str)) = false := by decide) (he : starEach (e :: es) X.env = (false, eval e X.env) :: starEach es X.env := by rfl) (hpl : (backTo pos (starEach es X.env)).any (·.1) = false := by rfl) :
    DB X κ [.Expr (.Call (.Name x p) (e :: es) [] pos) sp] (fun W => tDrop (fun σ H Q => t σ H fun vs H1 => spD κ ps.length (lenM ps.length F) vs H1 Q (fun c d H' => W c d σ H'))) (defM (lenM ps.length F) fA) :=
  ⟨fun W pn xe tk _ => pss_one (ps_expr (pe_callW tk G hgd hr hg hm hk hb (ha pn xe EF).p hdb he hpl) hs), rd_bcall fun E => (ha [] (fun _ _ => False) E).r⟩
theorem db_if {c : Expr} {tc : TT} {g : Ev → M Bool} {s1 s2 : List Stmt} {t1 t2 : WX → TS} {m1 m2 : Ev → M PyData} (hc : ∀ (pn : List (Addr × Obj)) (xe : Value → Shared → Prop) (E : XK), DT (X.tr pn xe) κ E c tc g) (h1 : DB X κ s1 t1 m1) (h2 : DB X κ s2 t2 m2) :
    DB X κ [.If c s1 s2 pos] (fun W => tIfS tc (t1 W) (t2 W)) (pickM g m1 m2) :=
  ⟨fun W pn xe tk po => pss_one (ps_if (hc pn xe EF).p (h1.p W pn xe tk po) (h2.p W pn xe tk po)), rd_bif (fun E => (hc [] (fun _ _ => False) E).r) h1.r h2.r⟩
end

/-! ### the try -/
def nameC : Cl → Str
  | .bs => "BadSet"
  | .un => "Unlike"
  | .tg => "TooGreat"
def tryM (body : Ev → M PyData) (i j : Nat) (ρ : Ev) : M Fl := fun w => match ρ[j]? with
  | some .un => match body ρ w with
    | .ok _ w' => .ok (.nx ρ) w'
    | .er c d w' => .ok (.nx (ρ.set i (.fz (.list [.str (nameC c), d])))) w'
    | .no => .no
  | _ => .no
/-- a slot of which nothing is known is set -/
theorem Ent.unset {S : Option SA} {ρ : Ev} {w : LS} {σ : L2.St} {G H : Hp} (e : Ent S ρ w σ G H) {j : Nat} (h : ρ[j]? = some .un) (o : Option V) : Ent S ρ w (σ.set j o) G H := by
  refine ⟨e.sub, by rw [List.length_set]; exact e.len, fun k s q => ?_, fun j1 j2 x y l h1 h2 h3 h4 => ?_, e.st⟩
  · by_cases hk : j = k
    · subst hk
      rw [h] at q
      cases q
      exact ⟨o, List.getElem?_set_self (by rw [← e.len]; exact (List.getElem?_eq_some_iff.mp h).1), True.intro⟩
    · rw [List.getElem?_set_ne hk]
      exact e.sl k s q
  · have n1 : j ≠ j1 := fun z => by rw [z, h1] at h; cases h
    have n2 : j ≠ j2 := fun z => by rw [z, h2] at h; cases h
    rw [List.getElem?_set_ne n1] at h3
    rw [List.getElem?_set_ne n2] at h4
    exact e.ap j1 j2 x y l h1 h2 h3 h4
theorem Bas.unset {S : Option SA} {G0 H0 : Hp} {ρ : Ev} {σ : L2.St} {G H : Hp} (b : Bas S G0 H0 ρ σ G H) {j : Nat} (h : ρ[j]? = some .un) (o : Option V) : Bas S G0 H0 ρ (σ.set j o) G H := by
  refine ⟨b.ext, fun k x l h1 h2 => ?_⟩
  have n1 : j ≠ k := fun z => by rw [z, h1] at h; cases h
  rw [List.getElem?_set_ne n1] at h2
  exact b.own k x l h1 h2
abbrev tH (a : Addr) (cls : Value) (d : Option Addr) (C : Addr) (c : Cl) (i j : Nat) : TS := tAsg (tLst (tCons (tC (.str (nameC c))) (tCons (tXf a cls d C (fld c) (tVar j)) tNil))) (gName i)
abbrev clauses (κ : Cl → Addr) (C0 : Value) (i j : Nat) : List Clause :=
  [(.ref (κ .bs), some j, fun a cls d => tH a cls d (κ .bs) .bs i j), (.ref (κ .un), some j, fun a cls d => tH a cls d (κ .un) .un i j), (.ref (κ .tg), some j, fun a cls d => tH a cls d (κ .tg) .tg i j), (C0, none, fun _ _ _ => tAsg (tLst (tCons (tC (.str "another")) tNil)) (gName i))]
theorem rd_try {K : PySem.W.Frag} {κ : Cl → Addr} {E : XK} {C0 : Value} {i j : Nat} (hij : i ≠ j) {tb : WX → TS} {m : Ev → M PyData} (em : ∀ c c' : Cl, PySem.W.exmOne K (.ref (κ c)) (.ref (κ c')) = some (decide (c = c'))) (hb : RdB κ tb m) (Wout : WX) :
    RdS κ E (fun D σ H => tb (wManyA K Wout D (clauses κ C0 i j)) D σ H) (tryM m i j) := by
  intro S G0 H0 G H ρ w σ D env b p
  unfold tryM at p
  cases q : ρ[j]? with
  | none => rw [q] at p; exact p.elim
  | some s =>
    rw [q] at p
    cases s with
    | fz _ => exact p.elim
    | ow _ => exact p.elim
    | st => exact p.elim
    | un =>
      simp only at p
      refine hb S G H ρ w σ _ D env ?_
      cases z : m ρ w with
      | ok d w' =>
        rw [z] at p
        exact fun G' H' x s => p σ G' H' (env.ext x s) (b.next x)
      | no => rw [z] at p; exact p.elim
      | er c d w' =>
        rw [z] at p
        have p' : ∀ σ' G' H', Ent S (ρ.set i (.fz (.list [.str (nameC c), d]))) w' σ' G' H' → Bas S G0 H0 (ρ.set i (.fz (.list [.str (nameC c), d]))) σ' G' H' → D.nx σ' H' := p
        intro v x G' H' xt st av hx hgx
        have env' := env.ext xt st
        have b' := b.next xt
        have hjl : j < σ.length := by rw [← env.len]; exact (List.getElem?_eq_some_iff.mp q).1
        have fin : ∀ a : Addr, H' a = none → tH a (.ref (κ c)) (some x) (κ c) c i j { nx := fun σ' H' => D.nx (σ'.set j none) H', rt := D.rt, bk := fun σ' H' => D.bk (σ'.set j none) H', ct := fun σ' H' => D.ct (σ'.set j none) H' } (σ.set j (some (.ref a))) H' := by
          intro a ha
          refine ⟨.ref a, List.getElem?_set_self hjl, rfl, rfl, x, [(fld c, v)], v, rfl, hx, ?_, ?_⟩
          · simp [List.lookup]
          · refine ⟨by show 2 ≤ sizeLine; decide, fun r hr => ?_⟩
            have e1 : ((σ.set j (some (V.ref a))).set i (some (.ref r))).set j none = (σ.set j none).set i (some (.ref r)) := by
              rw [List.set_comm _ _ (Ne.symm hij), List.set_set, List.set_comm _ _ hij]
            show D.nx (((σ.set j (some (V.ref a))).set i (some (.ref r))).set j none) _
            rw [e1]
            have x2 := Ext.new (S := S) env'.sub (.lst [.str (nameC c), v]) hr
            have s2 := st.new (.lst [.str (nameC c), v]) hr
            have av2 : At (upd G' r (.lst [.str (nameC c), v])) (.ref r) (.list [.str (nameC c), d]) := At.lstN env'.sub hr (.cons (.str _) (.cons av .nil))
            exact p' _ _ _ (((env'.unset q none).ext x2 s2).set av2) ((b'.unset q none).next x2).set
        cases c with
        | bs => exact ⟨true, em .bs .bs, fun _ a ha => fin a ha, fun z => by cases z⟩
        | un =>
          refine ⟨false, em .un .bs, (fun z => by cases z), fun _ => ?_⟩
          exact ⟨true, em .un .un, fun _ a ha => fin a ha, fun z => by cases z⟩
        | tg =>
          refine ⟨false, em .tg .bs, (fun z => by cases z), fun _ => ?_⟩
          refine ⟨false, em .tg .un, (fun z => by cases z), fun _ => ?_⟩
          exact ⟨true, em .tg .tg, fun _ a ha => fin a ha, fun z => by cases z⟩
section
variable {X : Cx} {κ : Cl → Addr} {E : XK} {pos : Pos}
theorem ps_hd {a : Addr} {oe : Obj} {cls : Value} {d : Option Addr} {pn : List (Addr × Obj)} {C : Addr} {c : Cl} {i j : Nat} {x n : Str} {p1 p2 p3 p4 p5 p6 : Pos} {q} {nm f : Str} (hnm : nm = nameC c) (hf : f = fld c) (T : XfC X.K C) (hno : PySem.W.findIn X.K (.ref C) (fld c) = some none) (hN : X.N.Nodup)
    (hi : X.N[i]? = some x) (hj : X.N[j]? = some n) (hx : X.env.scope.names.lookup x = some .local) (hn : X.env.scope.names.lookup n = some .local) (hd : (n == ("__debug__" : Str)) = false) (hcd : (n == ("__classdict__" : Str)) = false)
    (hz : Zc cls d oe) (hf' : ∃ vs, oe.data = .fields vs)
    (hb : attributeBase (.Name n p1) (fld c) X.env (eval (.Name n p1) X.env) = eval (.Name n p1) X.env)
    (h1 : starEach [.Constant (.str nm) q p2, .Attribute (.Name n p1) f p3] X.env = (false, eval (.Constant (.str nm) q p2) X.env) :: starEach [.Attribute (.Name n p1) f p3] X.env) (h2 : starEach [.Attribute (.Name n p1) f p3] X.env = (false, eval (.Attribute (.Name n p1) f p3) X.env) :: starEach [] X.env)
    (hs : swapsWith (.List [.Constant (.str nm) q p2, .Attribute (.Name n p1) f p3] p4) (some (.Name x p5)) p6.line X.env = pure false) :
    PSs (X.suite a ((a, oe) :: pn)) [.Assign [.Name x p5] (.List [.Constant (.str nm) q p2, .Attribute (.Name n p1) f p3] p4) p6] (tH a cls d C c i j) := by
  subst hnm hf
  exact pss_one (ps_set (X := X.suite a ((a, oe) :: pn)) hN hi (.inl hx) (pe_lst (pa_cons pe_str (pa_cons (pe_xf T hno hz hf' (pe_var hj (.inl hn) hd hcd) hb) pa_nil h2) h1)) hs (.inr hx))
theorem ds_try {C0 : Value} {x n : Str} {i j : Nat} {tb : WX → TS} {m : Ev → M PyData} {body : List Stmt} {hds : List ExceptHandler} {h₀ : ExceptHandler} (hij : i ≠ j) (hs : X.stack = X.env :: X.outer) (hf : X.env.frame = some X.env.locals) (hN : X.N.Nodup) (tk : Takes X (fun c d _ H' => E c d H'))
    (em : ∀ c c' : Cl, PySem.W.exmOne X.K (.ref (κ c)) (.ref (κ c')) = some (decide (c = c'))) (hb : DB X κ body tb m) (hh : HdsA X (h₀ :: hds) (clauses κ C0 i j)) :
    DS X κ E (.Try body (h₀ :: hds) [] [] pos) (fun D σ H => tb (wManyA X.K (fun c d _ H' => E c d H') D (clauses κ C0 i j)) D σ H) (tryM m i j) :=
  ⟨ps_try_manyA hs hf hN tk hb.p hh, rd_try hij em hb.r _⟩
end
end Wh

namespace Wh
open PySem PySem.Spec PyProof.Rows L2

/-! ### the state of draws: read -/
abbrev kvS (a : SA) (w : LS) : List (Key × V) := [(.inr "cells", .ref a.c), (.inr "lefts", .ref a.l), (.inr "at", .int w.at_)]
theorem valV_cells (a : SA) (w : LS) : valV (kvS a w) (.inr ("cells" : Str)) = some (.ref a.c) := by rfl
theorem valV_lefts (a : SA) (w : LS) : valV (kvS a w) (.inr ("lefts" : Str)) = some (.ref a.l) := by rfl
theorem valV_at (a : SA) (w : LS) : valV (kvS a w) (.inr ("at" : Str)) = some (.int w.at_) := by rfl
theorem put_at (a : SA) (w : LS) (n : Int) : putK (kvS a w) (.inr ("at" : Str)) (.int n) = kvS a { w with at_ := n } := by rfl
def stM {α : Type} (i : Nat) (g : LS → R α) (ρ : Ev) : M α := fun w => match ρ[i]? with
  | some .st => g w
  | _ => .no
/-- the state stands -/
theorem st_slot {α : Type} {κ : Cl → Addr} {S : Option SA} {G H : Hp} {E : XK} {ρ : Ev} {w : LS} {σ : L2.St} {i : Nat} {g : LS → R α} {k : α → LS → Hp → Hp → Prop} (env : Ent S ρ w σ G H) (h : PostW κ S G H E (stM i g ρ w) k) :
    ∃ a : SA, S = some a ∧ σ[i]? = some (some (.ref a.d)) ∧ H a.d = some (.dK (kvS a w)) ∧ H a.c = some (.lst (w.cells.map V.int)) ∧ H a.l = some (.lst (w.lefts.map V.int)) ∧ PostW κ S G H E (g w) k := by
  unfold stM at h
  cases q : ρ[i]? with
  | none => rw [q] at h; exact h.elim
  | some s =>
    rw [q] at h
    cases s with
    | st =>
      obtain ⟨o, e1, a, eS, eo⟩ := env.sl i _ q
      subst eo
      have st := env.st
      rw [eS] at st
      obtain ⟨h1, h2, h3, _⟩ := st
      exact ⟨a, eS, e1, h1, h2, h3, h⟩
    | _ => exact h.elim
abbrev stAt (w : LS) : R PyData := .ok (.int w.at_) w
abbrev stLen (w : LS) : R PyData := .ok (.int (w.cells.length : Nat)) w
section
variable {X : Cx} {κ : Cl → Addr} {E : XK} {p1 p2 p3 p4 p5 p6 : Pos} {q j : Nat}
theorem rd_stAt (i : Nat) : RdE κ E (tDGet (tVar i) (tC (.str "at"))) (stM i stAt) := by
  intro S G H ρ w σ Q env h
  obtain ⟨a, eS, e1, hd, hc, hl, h2⟩ := st_slot env h
  refine ⟨_, e1, a.d, .int w.at_, rfl, ?_, ?_⟩
  · rw [← valV_at a w]
    exact DGet.k (k := .inr ("at" : Str)) hd
  · exact h2 G H (Ext.refl env.sub) env.st _ (.int _)
theorem pe_stGet {x k : Str} (i : Nat) (hu : X.A.units + 1 < cLine) (hN : X.N[i]? = some x) (hv : Vis X.env.scope x) (hd : (x == ("__debug__" : Str)) = false) (hcd : (x == ("__classdict__" : Str)) = false) (hs : NoSl (.Constant (.str k) q p2)) :
    PE X (.Subscript (.Name x p1) (.Constant (.str k) q p2) p3) (tDGet (tVar i) (tC (.str k))) := pe_dget hu (pe_var hN hv hd hcd) pe_str hs
theorem de_stAt (i : Nat) {x : Str} (hu : X.A.units + 1 < cLine) (hN : X.N[i]? = some x := by rfl) (hv : Vis X.env.scope x := by first | exact Or.inl rfl | exact Or.inr (Or.inl rfl) | exact Or.inr (Or.inr rfl)) (hd : (x == ("__debug__" : Str)) = false := by decide)
    (hcd : (x == ("__classdict__" : Str)) = false := by decide) (hs : NoSl (.Constant (.str "at") q p2) := by intro _ _; rfl) : DE X κ E (.Subscript (.Name x p1) (.Constant (.str "at") q p2) p3) (tDGet (tVar i) (tC (.str "at"))) (stM i stAt) :=
  ⟨pe_stGet i hu hN hv hd hcd hs, rd_stAt i⟩
theorem rd_stLen {K : PySem.W.Frag} (i : Nat) : RdE κ E (tCB (rLenD K) (tCons (tDGet (tVar i) (tC (.str "cells"))) tNil)) (stM i stLen) := by
  intro S G H ρ w σ Q env h
  obtain ⟨a, eS, e1, hd, hc, hl, h2⟩ := st_slot env h
  refine ⟨_, e1, a.d, .ref a.c, rfl, ?_, ?_⟩
  · rw [← valV_cells a w]
    exact DGet.k (k := .inr ("cells" : Str)) hd
  · refine .inl ⟨a.c, _, rfl, .inl (SqL.of hc), ?_⟩
    rw [List.length_map]
    exact h2 G H (Ext.refl env.sub) env.st _ (.int _)
theorem de_stLen (i : Nat) {x : Str} (hu : X.A.units + 1 < cLine) (hg : Gl X "len") (hm : X.mg "len" = none) (hN : X.N[i]? = some x := by rfl) (hv : Vis X.env.scope x := by first | exact Or.inl rfl | exact Or.inr (Or.inl rfl) | exact Or.inr (Or.inr rfl)) (hd : (x == ("__debug__" : Str)) = false := by decide)
    (hcd : (x == ("__classdict__" : Str)) = false := by decide) (hs : NoSl (.Constant (.str "cells") q p2) := by intro _ _; rfl)
    (he : starEach [.Subscript (.Name x p1) (.Constant (.str "cells") q p2) p3] X.env = (false, eval (.Subscript (.Name x p1) (.Constant (.str "cells") q p2) p3) X.env) :: starEach [] X.env := by rfl) :
    DE X κ E (.Call (.Name "len" p4) [.Subscript (.Name x p1) (.Constant (.str "cells") q p2) p3] [] p5) (tCB (rLenD X.K) (tCons (tDGet (tVar i) (tC (.str "cells"))) tNil)) (stM i stLen) :=
  ⟨pe_callB call_lenD hg hm boot_len (pa_cons (pe_stGet i hu hN hv hd hcd hs) pa_nil he) (by decide) (by decide) he (by rfl), rd_stLen i⟩
/-- the n-th cell, the n-th that is left -/
def stCell (n : Int) (w : LS) : R PyData := match L2.atI w.cells n with
  | some c => .ok (.int c) w
  | none => .no
def stLeft (n : Int) (w : LS) : R PyData := match L2.atI w.lefts n with
  | some c => .ok (.int c) w
  | none => .no
abbrev stOk (w : LS) : R Unit := .ok () w
def stIx (i : Nat) (g : Int → LS → R PyData) (f : Ev → M PyData) (ρ : Ev) : M PyData := do
  let _ ← stM i stOk ρ
  let d ← f ρ
  match d with
  | .int n => stM i (g n) ρ
  | _ => M.no
theorem atI_map {xs : List Int} {n c : Int} (h : L2.atI xs n = some c) : L2.atI (xs.map V.int) n = some (.int c) := by
  unfold L2.atI at h ⊢
  rw [List.length_map]
  obtain ⟨j, e1, e2⟩ := Option.bind_eq_some_iff.mp h
  rw [e1]
  show (xs.map V.int)[j]? = _
  rw [List.getElem?_map, e2]
  rfl
theorem rd_stLeft {K : PySem.W.Frag} {te : TE} {f : Ev → M PyData} (i : Nat) (h : RdE κ E te f) : RdE κ E (tOp (rIx K) (tDGet (tVar i) (tC (.str "lefts"))) te) (stIx i stLeft f) := by
  intro S G H ρ w σ Q env p
  obtain ⟨a, eS, e1, hd, hc, hl, p1⟩ := st_slot env p.bind
  have p1 := p1 G H (Ext.refl env.sub) env.st
  refine ⟨_, e1, a.d, .ref a.l, rfl, ?_, ?_⟩
  · rw [← valV_lefts a w]
    exact DGet.k (k := .inr ("lefts" : Str)) hd
  · refine h S G H ρ w σ _ env ((PostW.bind (m := f ρ) p1).imp fun d w1 G1 H1 x1 s1 h1 v av => ?_)
    cases d with
    | int n =>
      cases av
      obtain ⟨a', eS', _, hd', hc', hl', p2⟩ := st_slot (env.ext x1 s1) h1
      rw [eS] at eS'
      cases eS'
      have p2' : PostW κ S G1 H1 E ((match L2.atI w1.lefts n with | some c => .ok (.int c) w1 | none => .no : R PyData)) (kV Q) := p2
      cases q : L2.atI w1.lefts n with
      | none => rw [q] at p2'; exact p2'.elim
      | some c =>
        rw [q] at p2'
        exact .inl ⟨a.l, _, n, .int c, rfl, rfl, SqL.of hl', atI_map q, p2' G1 H1 (Ext.refl x1.sub) s1 _ (.int _)⟩
    | _ => exact h1.elim
theorem rd_stCell {K : PySem.W.Frag} {te : TE} {f : Ev → M PyData} (i : Nat) (h : RdE κ E te f) : RdE κ E (tOp (rIx K) (tDGet (tVar i) (tC (.str "cells"))) te) (stIx i stCell f) := by
  intro S G H ρ w σ Q env p
  obtain ⟨a, eS, e1, hd, hc, hl, p1⟩ := st_slot env p.bind
  have p1 := p1 G H (Ext.refl env.sub) env.st
  refine ⟨_, e1, a.d, .ref a.c, rfl, ?_, ?_⟩
  · rw [← valV_cells a w]
    exact DGet.k (k := .inr ("cells" : Str)) hd
  · refine h S G H ρ w σ _ env ((PostW.bind (m := f ρ) p1).imp fun d w1 G1 H1 x1 s1 h1 v av => ?_)
    cases d with
    | int n =>
      cases av
      obtain ⟨a', eS', _, hd', hc', hl', p2⟩ := st_slot (env.ext x1 s1) h1
      rw [eS] at eS'
      cases eS'
      have p2' : PostW κ S G1 H1 E ((match L2.atI w1.cells n with | some c => .ok (.int c) w1 | none => .no : R PyData)) (kV Q) := p2
      cases q : L2.atI w1.cells n with
      | none => rw [q] at p2'; exact p2'.elim
      | some c =>
        rw [q] at p2'
        exact .inl ⟨a.c, _, n, .int c, rfl, rfl, SqL.of hc', atI_map q, p2' G1 H1 (Ext.refl x1.sub) s1 _ (.int _)⟩
    | _ => exact h1.elim
variable {e e2 : Expr} {te te2 : TE} {f f2 : Ev → M PyData}
theorem de_stLeft (i : Nat) {x : Str} (hu : X.A.units + 1 < cLine) (he : DE X κ E e te f) (hN : X.N[i]? = some x := by rfl) (hv : Vis X.env.scope x := by first | exact Or.inl rfl | exact Or.inr (Or.inl rfl) | exact Or.inr (Or.inr rfl)) (hd : (x == ("__debug__" : Str)) = false := by decide)
    (hcd : (x == ("__classdict__" : Str)) = false := by decide) (hs : NoSl (.Constant (.str "lefts") q p2) := by intro _ _; rfl) (hp : PlainIx e := by intro _ _; rfl) :
    DE X κ E (.Subscript (.Subscript (.Name x p1) (.Constant (.str "lefts") q p2) p3) e p4) (tOp (rIx X.K) (tDGet (tVar i) (tC (.str "lefts"))) te) (stIx i stLeft f) :=
  ⟨pe_ix ix_seq (pe_stGet i hu hN hv hd hcd hs) he.p hp, rd_stLeft i he.r⟩
theorem de_stCell (i : Nat) {x : Str} (hu : X.A.units + 1 < cLine) (he : DE X κ E e te f) (hN : X.N[i]? = some x := by rfl) (hv : Vis X.env.scope x := by first | exact Or.inl rfl | exact Or.inr (Or.inl rfl) | exact Or.inr (Or.inr rfl)) (hd : (x == ("__debug__" : Str)) = false := by decide)
    (hcd : (x == ("__classdict__" : Str)) = false := by decide) (hs : NoSl (.Constant (.str "cells") q p2) := by intro _ _; rfl) (hp : PlainIx e := by intro _ _; rfl) :
    DE X κ E (.Subscript (.Subscript (.Name x p1) (.Constant (.str "cells") q p2) p3) e p4) (tOp (rIx X.K) (tDGet (tVar i) (tC (.str "cells"))) te) (stIx i stCell f) :=
  ⟨pe_ix ix_seq (pe_stGet i hu hN hv hd hcd hs) he.p hp, rd_stCell i he.r⟩

/-! ### written -/
theorem Ext.st {a : SA} {G H : Hp} {w : LS} (k : Sub G H) (s : StAt (some a) G H w) {b : Addr} (o : HO) (hb : Mu (some a) b) (hG : G b = none) : Ext (some a) G H G (upd H b o) where
  sub := fun c u e => by rw [upd_ne (ne_of_none e hG)]; exact k c u e
  gg := Sub.refl G
  hh := fun c u e n => by
    have ne : c ≠ b := fun z => n (z ▸ hb)
    rw [upd_ne ne]; exact e
  hs := fun c e => by
    by_cases h : c = b
    · rw [h, upd_same]; exact fun z => by cases z
    · rw [upd_ne h]; exact e
  nw := fun _ _ => rfl
/-- st['at'] = e -/
def stPutAt (i : Nat) (f : Ev → M PyData) (ρ : Ev) : M Fl := do
  let d ← f ρ
  match d with
  | .int n => stM i (fun w => .ok (.nx ρ) { w with at_ := n }) ρ
  | _ => M.no
theorem dk_ne_lst {kvs : List (Key × V)} {xs : List V} : HO.dK kvs ≠ HO.lst xs := fun z => by cases z
theorem spost_stM {κ : Cl → Addr} {S : Option SA} {G0 H0 G H : Hp} {E : XK} {D : Ends} {ρ : Ev} {w : LS} {σ : L2.St} {i : Nat} {g : LS → R Fl} (env : Ent S ρ w σ G H) (h : SPost κ S G0 H0 E D (stM i g ρ w)) :
    ∃ a : SA, S = some a ∧ σ[i]? = some (some (.ref a.d)) ∧ SPost κ S G0 H0 E D (g w) := by
  unfold stM at h
  cases q : ρ[i]? with
  | none => rw [q] at h; exact h.elim
  | some s =>
    rw [q] at h
    cases s with
    | st =>
      obtain ⟨o, e1, a, eS, eo⟩ := env.sl i _ q
      subst eo
      exact ⟨a, eS, e1, h⟩
    | _ => exact h.elim
theorem rd_stPutAt (i : Nat) (h : RdE κ E te f) : RdS κ E (sDPut (tVar i) (tC (.str "at")) te) (stPutAt i f) := by
  intro S G0 H0 G H ρ w σ D env b p
  refine h S G H ρ w σ _ env ((SPost.split p b.ext).imp fun d w1 G1 H1 x1 s1 h1 v av => ?_)
  have env1 := env.ext x1 s1
  cases d with
  | int n =>
    cases av
    obtain ⟨a, eS, e1, h2⟩ := spost_stM env1 h1
    subst eS
    obtain ⟨hd, hc, hl, gd, gc, gl, ne⟩ := id s1
    refine ⟨.ref a.d, e1, a.d, _, rfl, DPut.k (k := .inr ("at" : Str)) (v := .int n) hd (by show 3 < sizeLine; decide), ?_⟩
    rw [put_at a w1 n]
    have ncd : a.c ≠ a.d := fun z => by rw [z, hd] at hc; exact dk_ne_lst (Option.some.inj hc)
    have nld : a.l ≠ a.d := fun z => by rw [z, hd] at hl; exact dk_ne_lst (Option.some.inj hl)
    have xs := Ext.st x1.sub s1 (.dK (kvS a { w1 with at_ := n })) (.inl rfl) gd
    have st : StAt (some a) G1 (upd H1 a.d (.dK (kvS a { w1 with at_ := n }))) { w1 with at_ := n } := ⟨upd_same, by rw [upd_ne ncd]; exact hc, by rw [upd_ne nld]; exact hl, gd, gc, gl, ne⟩
    exact h2 _ _ _ (env1.ext xs st) ((b.next x1).next xs)
  | _ => exact h1.elim
theorem ds_stPutAt (i : Nat) {x : Str} {pos : Pos} (hu : X.A.units + 1 < cLine) (he : DE X κ E e te f) (hN : X.N[i]? = some x := by rfl) (hv : Vis X.env.scope x := by first | exact Or.inl rfl | exact Or.inr (Or.inl rfl) | exact Or.inr (Or.inr rfl)) (hd : (x == ("__debug__" : Str)) = false := by decide)
    (hcd : (x == ("__classdict__" : Str)) = false := by decide) (hs : swapsWith e (some (.Subscript (.Name x p1) (.Constant (.str "at") q p2) p3)) pos.line X.env = pure false := by rfl) :
    DS X κ E (.Assign [.Subscript (.Name x p1) (.Constant (.str "at") q p2) p3] e pos) (sDPut (tVar i) (tC (.str "at")) te) (stPutAt i f) :=
  ⟨ps_dput hu (pe_var hN hv hd hcd) pe_str he.p hs, rd_stPutAt i he.r⟩
/-- st['lefts'][j] = e, j a slot -/
def stSetL (m n : Int) (ρ : Ev) (w : LS) : R Fl := match ixN w.lefts.length m with
  | some j => .ok (.nx ρ) { w with lefts := w.lefts.set j n }
  | none => .no
def stPutLeft (i : Nat) (f2 f : Ev → M PyData) (ρ : Ev) : M Fl := do
  let d ← f ρ
  let _ ← stM i stOk ρ
  let k ← f2 ρ
  match d, k with
  | .int n, .int m => stM i (stSetL m n ρ) ρ
  | _, _ => M.no
theorem rd_stPutLeft (i : Nat) (h : RdE κ E te f) (h2 : RdE κ E te2 f2) : RdS κ E (tAsg te (gSub (tDGet (tVar i) (tC (.str "lefts"))) te2 rSetL)) (stPutLeft i f2 f) := by
  intro S G0 H0 G H ρ w σ D env b p
  refine h S G H ρ w σ _ env ((SPost.split p b.ext).imp fun d w1 G1 H1 x1 s1 h1 v av => ?_)
  have env1 := env.ext x1 s1
  have b1 := b.next x1
  obtain ⟨a, eS, e1, hd, hc, hl, p1⟩ := st_slot env1 (SPost.split h1 b1.ext)
  have p1 := p1 G1 H1 (Ext.refl x1.sub) s1
  refine ⟨_, e1, a.d, .ref a.l, rfl, ?_, ?_⟩
  · rw [← valV_lefts a w1]
    exact DGet.k (k := .inr ("lefts" : Str)) hd
  · refine h2 S G1 H1 ρ w1 σ _ env1 ((SPost.split p1 b1.ext).imp fun k w2 G2 H2 x2 s2 h3 u au => ?_)
    have env2 := env1.ext x2 s2
    cases d with
    | int n =>
      cases av
      cases k with
      | int m =>
        cases au
        obtain ⟨a', eS', _, h4⟩ := spost_stM env2 h3
        rw [eS] at eS'
        cases eS'
        have h4' : SPost κ S G0 H0 E D (match ixN w2.lefts.length m with
          | some j => .ok (.nx ρ) { w2 with lefts := w2.lefts.set j n }
          | none => .no) := h4
        cases z : ixN w2.lefts.length m with
        | none => rw [z] at h4'; exact h4'.elim
        | some j =>
          rw [z] at h4'
          subst eS
          obtain ⟨hd, hc, hl, gd, gc, gl, ne⟩ := id s2
          refine ⟨a.l, _, m, j, rfl, rfl, hl, by rw [List.length_map]; exact z, ?_⟩
          have eset : (w2.lefts.map V.int).set j (V.int n) = (w2.lefts.set j n).map V.int := by rw [List.map_set]
          rw [eset]
          have nld : a.d ≠ a.l := fun z => by rw [← z, hd] at hl; exact dk_ne_lst (Option.some.inj hl)
          have xs := Ext.st x2.sub s2 (.lst ((w2.lefts.set j n).map V.int)) (.inr (.inl rfl)) gl
          have st : StAt (some a) G2 (upd H2 a.l (.lst ((w2.lefts.set j n).map V.int))) { w2 with lefts := w2.lefts.set j n } := ⟨by rw [upd_ne nld]; exact hd, by rw [upd_ne ne]; exact hc, upd_same, gd, gc, gl, ne⟩
          exact h4' _ _ _ (env2.ext xs st) ((b1.next x2).next xs)
      | _ => cases au <;> exact h3.elim
    | _ => cases av <;> exact h3.elim
theorem ds_stPutLeft (i : Nat) {x : Str} {pos : Pos} (hu : X.A.units + 1 < cLine) (he : DE X κ E e te f) (h2 : DE X κ E e2 te2 f2) (hN : X.N[i]? = some x := by rfl) (hv : Vis X.env.scope x := by first | exact Or.inl rfl | exact Or.inr (Or.inl rfl) | exact Or.inr (Or.inr rfl)) (hd : (x == ("__debug__" : Str)) = false := by decide)
    (hcd : (x == ("__classdict__" : Str)) = false := by decide) (hs : NoSl (.Constant (.str "lefts") q p2) := by intro _ _; rfl)
    (hw : swapsWithSole [.Subscript (.Subscript (.Name x p1) (.Constant (.str "lefts") q p2) p3) e2 p4] e pos.line X.env = pure false := by rfl) (hw2 : swappedStores [.Subscript (.Subscript (.Name x p1) (.Constant (.str "lefts") q p2) p3) e2 p4] e X.env = pure none := by rfl)
    (h1 : (assignEach [.Subscript (.Subscript (.Name x p1) (.Constant (.str "lefts") q p2) p3) e2 p4] X.env).map (·.2) = [assign (.Subscript (.Subscript (.Name x p1) (.Constant (.str "lefts") q p2) p3) e2 p4) X.env] := by rfl)
    (ha : ∀ v, assign (.Subscript (.Subscript (.Name x p1) (.Constant (.str "lefts") q p2) p3) e2 p4) X.env v = (do
      let ov ← holding [v] (eval (.Subscript (.Name x p1) (.Constant (.str "lefts") q p2) p3) X.env)
      let iv ← holding [v, ov] (eval e2 X.env)
      standAt p4
      holding [v, ov, iv] (setItem ov iv v)
      release [v, ov, iv] []) := by intro _; rfl) :
    DS X κ E (.Assign [.Subscript (.Subscript (.Name x p1) (.Constant (.str "lefts") q p2) p3) e2 p4] e pos) (tAsg te (gSub (tDGet (tVar i) (tC (.str "lefts"))) te2 rSetL)) (stPutLeft i f2 f) :=
  ⟨ps_asg he.p (pg_sub (pe_stGet i hu hN hv hd hcd hs) h2.p set_list ha) hw hw2 h1, rd_stPutLeft i he.r h2.r⟩
end
end Wh

namespace Wh
open PySem PySem.Spec PyProof.Rows L2

/-! ### small things for the defs' derivations -/
theorem hu_of {k : Nat} {A : Around} (hr : Room k A) : A.units + 100 < cLine := by have := hr.un; omega
theorem hu1 {k : Nat} {A : Around} (hr : Room k A) : A.units + 1 < cLine := by have := hu_of hr; omega
theorem hu8 {k : Nat} {A : Around} (hr : Room k A) : A.units + 8 < cLine := by have := hu_of hr; omega
theorem hu64 {k : Nat} {A : Around} (hr : Room k A) : A.units + 64 < cLine := by have := hu_of hr; omega
theorem hu65 {k : Nat} {A : Around} (hr : Room k A) : A.units + 65 < cLine := by have := hu_of hr; omega
theorem hu70 {k : Nat} {A : Around} (hr : Room k A) : A.units + 70 < cLine := by have := hu_of hr; omega
abbrev kI (i : Int) : Ev → M PyData := fun _ => pure (.int i)
abbrev kT (b : Bool) : Ev → M PyData := fun _ => pure (.bool b)
abbrev kN : Ev → M PyData := fun _ => pure .none
abbrev kS (x : Str) : Ev → M PyData := fun _ => pure (.str x)
theorem bt_tuple : bootBuiltins "tuple" = some (.type "tuple") := by decide +kernel
theorem bt_list : bootBuiltins "list" = some (.type "list") := by decide +kernel
theorem bt_int : bootBuiltins "int" = some (.type "int") := by decide +kernel
theorem bt_bool : bootBuiltins "bool" = some (.type "bool") := by decide +kernel
theorem bt_len : bootBuiltins "len" = some (.builtin "len") := by decide +kernel
theorem bt_sorted : bootBuiltins "sorted" = some (.builtin "sorted") := by decide +kernel
theorem bt_max : bootBuiltins "max" = some (.builtin "max") := by decide +kernel
theorem bt_min : bootBuiltins "min" = some (.builtin "min") := by decide +kernel
theorem bt_repr : bootBuiltins "repr" = some (.builtin "repr") := by decide +kernel
def blkB (N : List Str) (sc scope : Scope) (own : List (Str × Nat)) : Bool :=
  decide (scope.kind = .function) && ((scope.names.all fun y => decide (scope.names.lookup y.1 = some y.2)) && ((own.all fun p => decide (N[p.2]? = some p.1)) &&
    ((scope.names.all fun y => !decide (y.2 = .free) || (decide (sc.names.lookup y.1 = some .cell) || decide (sc.names.lookup y.1 = some .free))) &&
      (scope.names.all fun y => !(decide (y.2 = .local) || decide (y.2 = .cell)) || (decide (y.1 ∈ own.map (·.1)) || !decide (y.1 ∈ N))))))
theorem blk_of {N : List Str} {sc scope : Scope} {own : List (Str × Nat)} (h : blkB N sc scope own = true) : BlkOk N sc scope own := by
  unfold blkB at h
  rw [Bool.and_eq_true, Bool.and_eq_true, Bool.and_eq_true, Bool.and_eq_true] at h
  obtain ⟨h1, h2, h3, h4, h5⟩ := h
  refine ⟨of_decide_eq_true h1, fun y hy => of_decide_eq_true (List.all_eq_true.mp h2 y hy), fun p hp => of_decide_eq_true (List.all_eq_true.mp h3 p hp), fun y hy e => ?_, fun y hy e => ?_⟩
  · have z := List.all_eq_true.mp h4 y hy
    rw [Bool.or_eq_true, Bool.or_eq_true] at z
    rcases z with z | z | z
    · exact absurd e (by simpa using z)
    · exact .inl (of_decide_eq_true z)
    · exact .inr (of_decide_eq_true z)
  · have z := List.all_eq_true.mp h5 y hy
    rw [Bool.or_eq_true, Bool.or_eq_true] at z
    rcases z with z | z | z
    · rcases e with e | e <;> simp [e] at z
    · exact .inl (of_decide_eq_true z)
    · exact .inr (by simpa using z)
section
variable {X : Cx} {κ : Cl → Addr} {E : XK} {pos : Pos} {a b : Expr} {ta tb : TE} {fa fb : Ev → M PyData}
theorem de_ix (ha : DE X κ E a ta fa) (hb : DE X κ E b tb fb) (hs : PlainIx b := by intro _ _; rfl) : DE X κ E (.Subscript a b pos) (tOp (rIx X.K) ta tb) (opM ixD fa fb) := ⟨pe_ix ix_seq ha.p hb.p hs, rd_op rd_ixD ha.r hb.r⟩
/-- a list or a tuple is walked -/
def iSq (K : PySem.W.Frag) (tl : TE) : TI := fun σ H R => tl σ H fun x H1 => ∃ a, x = .ref a ∧ (((∃ xs, SqL K H1 a xs) ∧ R (Itl K a) H1) ∨ ((∃ xs, SqT K H1 a xs) ∧ R (Itt K a) H1))
theorem pi_sq {tg l : Expr} {tl : TE} (hl : PE X l tl) : PI X tg l (iSq X.K tl) := by
  refine ⟨fun pins s σ H R I h => ?_⟩
  refine thn (hl.run pins s σ H _ I h) fun v s1 ⟨x, H1, I1, r1, q1⟩ => ?_
  obtain ⟨a, e, q⟩ := q1
  subst e
  cases r1
  rcases q with ⟨⟨xs, hq⟩, q⟩ | ⟨⟨xs, hq⟩, q⟩
  · obtain ⟨its, rv, p, hz⟩ := I1.list hq
    refine wpAny_pyIter_list p.isList ?_
    refine ⟨s1.heap.objs.size, [s1.heap.objs.size], _, _, H1, rfl, I1.kept (t' := s1.toks) fun b o e => Heap.get?_push_of_some _ e, turn_list a _, ⟨_, Heap.get?_push_size _ rfl, rfl, rfl⟩, fun b hb => ?_, q⟩
    have e : b = s1.heap.objs.size := by simpa using hb
    subst e
    exact I1.fpOk (Nat.le_refl _) (I1.hok.fresh (Nat.le_refl _))
  · obtain ⟨its, rv, p, hz⟩ := I1.tuple hq
    refine wpAny_pyIter_tuple (show s1.heap.IsTuple a its.toArray from p) ?_
    refine ⟨s1.heap.objs.size, [s1.heap.objs.size], _, _, H1, rfl, I1.kept (t' := s1.toks) fun b o e => Heap.get?_push_of_some _ e, turn_tuple a _, ⟨_, Heap.get?_push_size _ rfl, rfl, rfl⟩, fun b hb => ?_, q⟩
    have e : b = s1.heap.objs.size := by simpa using hb
    subst e
    exact I1.fpOk (Nat.le_refl _) (I1.hok.fresh (Nat.le_refl _))
def seqM' : PyData → M (List PyData)
  | .list ds => pure ds
  | .tuple ds => pure ds
  | _ => M.no
theorem di_sq {tg l : Expr} {tl : TE} {f : Ev → M PyData} (h : DE X κ E l tl f) : DI X κ E tg l (iSq X.K tl) (itM seqM' f) := by
  refine ⟨pi_sq h.p, fun S G H ρ w σ R env p => ?_⟩
  refine h.r S G H ρ w σ _ env (p.bind.imp fun d w1 G1 H1 x1 s1 h1 v av => ?_)
  cases d with
  | list ds =>
    cases av with
    | lst g r => exact ⟨_, rfl, .inl ⟨⟨_, SqL.of (x1.sub _ _ g)⟩, post_pure h1 x1.sub s1 _ (walk_list g r)⟩⟩
  | tuple ds =>
    cases av with
    | tup g r => exact ⟨_, rfl, .inr ⟨⟨_, SqT.of (x1.sub _ _ g)⟩, post_pure h1 x1.sub s1 _ (walk_tup g r)⟩⟩
  | _ => exact h1.elim
theorem de_chain2 {c : Expr} {tc : TE} {fc : Ev → M PyData} (ha : DE X κ E a ta fa) (hb : DE X κ E b tb fb) (hc : DE X κ E c tc fc)
    (p : PE X a ta → PE X b tb → PE X c tc → PE X (.Compare a [.LtE, .LtE] [b, c] pos) (tChain (rI0 fun i j => .bl (decide (i ≤ j))) (rI0 fun i j => .bl (decide (i ≤ j))) ta tb tc)) :
    DE X κ E (.Compare a [.LtE, .LtE] [b, c] pos) (tChain (rI0 fun i j => .bl (decide (i ≤ j))) (rI0 fun i j => .bl (decide (i ≤ j))) ta tb tc) (chainM leD leD fa fb fc) :=
  de_chain op_le op_le rd_cmpD rd_cmpD ha hb hc p
end
theorem dg_tupK {X : Cx} {pos : Pos} {es : List Expr} {kk : Nat} {t : TGs} {n : Nat} {is : List Nat} {fs : List PyData → Ev → Option Ev} (K : PySem.W.Frag) (hK : X.K = K) (hc : X.calm = true) (h : DGs X es t is fs)
    (hn : (assignEach es X.env).length = n := by rfl) (hst : (assignEach es X.env).findIdx? (·.1) = none := by rfl) : DG X (.Tuple es kk pos) (gTup K n t) is (tgTup n fs) := by
  subst hK
  exact dg_tup hc h hn hst
theorem dt_inSlK {X : Cx} {κ : Cl → Addr} {E : XK} {a : Expr} {ta : TE} {fa : Ev → M PyData} {pos p : Pos} {x : Str} (K : PySem.W.Frag) (hK : X.K = K) (hu : X.A.units + 65 < cLine) (j : Nat) (ha : DE X κ E a ta fa) (hN : X.N[j]? = some x := by rfl) (hv : Vis X.env.scope x := by first | exact Or.inl rfl | exact Or.inr (Or.inl rfl) | exact Or.inr (Or.inr rfl)) (hd : (x == ("__debug__" : Str)) = false := by decide)
    (hcd : (x == ("__classdict__" : Str)) = false := by decide) (hm : behindInMarks .In (.Name x p) = false := by rfl) : DT X κ E (.Compare a [.In] [.Name x p] pos) (tTest (tOp (rInD K) ta (tVar j))) (testM (inSlM false fa j)) := by
  subst hK
  exact dt_inSl hu j ha hN hv hd hcd hm
theorem op_neDK {X : Cx} (K : PySem.W.Frag) (hK : X.K = K) (hu : X.A.units + 64 < cLine) : OpR X (compareOp .NotEq) (rNeD K) := by
  subst hK
  exact op_neD hu
theorem op_eqDK {X : Cx} (K : PySem.W.Frag) (hK : X.K = K) (hu : X.A.units + 64 < cLine) : OpR X (compareOp .Eq) (rEqD K) := by
  subst hK
  exact op_eqD hu
theorem op_addDK {X : Cx} (K : PySem.W.Frag) (hK : X.K = K) : OpR X (binaryOp .Add) (rAddD K) := by
  subst hK
  exact op_addD
theorem de_ixK {X : Cx} {κ : Cl → Addr} {E : XK} {pos : Pos} {a b : Expr} {ta tb : TE} {fa fb : Ev → M PyData} (K : PySem.W.Frag) (hK : X.K = K) (ha : DE X κ E a ta fa) (hb : DE X κ E b tb fb) (hs : PlainIx b := by intro _ _; rfl) : DE X κ E (.Subscript a b pos) (tOp (rIx K) ta tb) (opM ixD fa fb) := by
  subst hK
  exact de_ix ha hb hs
/-! ### the function objects -/
def fdOf (K : PySem.W.Frag) (f : Addr) : FuncData := match K.lookup f with
  | some ⟨_, _, .func fd, _⟩ => fd
  | _ => default
theorem fdOf_eq {K : PySem.W.Frag} {x q : Str} {params : Arguments} {body : List Stmt} {scope : Scope} {f : Addr} {fd : FuncData} (F : FunD K x q params body scope [] [] f fd) : FunD K x q params body scope [] [] f (fdOf K f) := by
  have e : fdOf K f = fd := by
    obtain ⟨oc, od, dV, kV, doc, pm, an, cdv, ct, osl, rfl, lk, _⟩ := F.ex
    unfold fdOf
    rw [lk]
  rw [e]
  exact F
abbrev kap (K : PySem.W.Frag) (c : Cl) : Addr := He.ga K (nameC c)
theorem em_of {K : PySem.W.Frag} (EX : ExcK K) (c c' : Cl) : PySem.W.exmOne K (.ref (kap K c)) (.ref (kap K c')) = some (decide (c = c')) := by
  have m : ∀ c : Cl, nameC c ∈ clB := fun c => by cases c <;> decide
  have e : ∀ c c' : Cl, decide (nameC c = nameC c') = decide (c = c') := fun c c' => by cases c <;> cases c' <;> decide +kernel
  rw [← e]
  exact EX.em _ (m c) _ (m c')
end Wh

namespace Wh
open PySem PySem.Spec PyProof.Rows L2

structure MG (K : PySem.W.Frag) (mg : Str → Option Value) : Prop where
  g_is_from : mg "is_from" = some (.ref (He.ga K "is_from"))
  g_is_vector : mg "is_vector" = some (.ref (He.ga K "is_vector"))
  g_is_line : mg "is_line" = some (.ref (He.ga K "is_line"))
  g_need_set : mg "need_set" = some (.ref (He.ga K "need_set"))
  g_line_of : mg "line_of" = some (.ref (He.ga K "line_of"))
  g_set_with : mg "set_with" = some (.ref (He.ga K "set_with"))
  g_added : mg "added" = some (.ref (He.ga K "added"))
  g_need_short : mg "need_short" = some (.ref (He.ga K "need_short"))
  g_need_two : mg "need_two" = some (.ref (He.ga K "need_two"))
  g_union : mg "union" = some (.ref (He.ga K "union"))
  g_sum_of : mg "sum_of" = some (.ref (He.ga K "sum_of"))
  g_choices_from : mg "choices_from" = some (.ref (He.ga K "choices_from"))
  g_star : mg "star" = some (.ref (He.ga K "star"))
  g_l_mixed : mg "_law_mixed" = some (.ref (He.ga K "_law_mixed"))
  g_l_begin : mg "_law_begin" = some (.ref (He.ga K "_law_begin"))
  g_l_draw : mg "_law_draw" = some (.ref (He.ga K "_law_draw"))
  g_l_row : mg "_law_row" = some (.ref (He.ga K "_law_row"))
  g_l_grid : mg "_law_grid" = some (.ref (He.ga K "_law_grid"))
  g_l_fills : mg "_law_fills" = some (.ref (He.ga K "_law_fills"))
  g_l_has : mg "_law_has" = some (.ref (He.ga K "_law_has"))
  g_l_like : mg "_law_like" = some (.ref (He.ga K "_law_like"))
  g_l_minus : mg "_law_minus" = some (.ref (He.ga K "_law_minus"))
  g_l_lines : mg "_law_lines" = some (.ref (He.ga K "_law_lines"))
  g_l_plus : mg "_law_plus" = some (.ref (He.ga K "_law_plus"))
  g_l_clean : mg "_law_clean" = some (.ref (He.ga K "_law_clean"))
  g_l_choices : mg "_law_choices" = some (.ref (He.ga K "_law_choices"))
  g_l_star_lines : mg "_law_star_lines" = some (.ref (He.ga K "_law_star_lines"))
  g_l_sums : mg "_law_sums" = some (.ref (He.ga K "_law_sums"))
  g_l_star_rows : mg "_law_star_rows" = some (.ref (He.ga K "_law_star_rows"))
  g_l_refusal : mg "_law_refusal" = some (.ref (He.ga K "_law_refusal"))
  g_l_refusals_right : mg "_law_refusals_right" = some (.ref (He.ga K "_law_refusals_right"))
  g_l_unions_right : mg "_law_unions_right" = some (.ref (He.ga K "_law_unions_right"))
  g_l_great_right : mg "_law_great_right" = some (.ref (He.ga K "_law_great_right"))
  g_law : mg "law" = some (.ref (He.ga K "law"))
  g_SayError : mg "SayError" = some (.ref (He.ga K "SayError"))
  g_BadSet : mg "BadSet" = some (.ref (He.ga K "BadSet"))
  g_Unlike : mg "Unlike" = some (.ref (He.ga K "Unlike"))
  g_TooGreat : mg "TooGreat" = some (.ref (He.ga K "TooGreat"))
  n_isinstance : mg "isinstance" = none
  n_tuple : mg "tuple" = none
  n_int : mg "int" = none
  n_bool : mg "bool" = none
  n_len : mg "len" = none
  n_enumerate : mg "enumerate" = none
  n_max : mg "max" = none
  n_min : mg "min" = none
  n_sorted : mg "sorted" = none
  n_range : mg "range" = none
  n_zip : mg "zip" = none
  n_list : mg "list" = none
  n_repr : mg "repr" = none
  i_WIDEST : ∃ t, mg "WIDEST" = some (.int 4 t)
  i_MOST_NUMBER : ∃ t, mg "MOST_NUMBER" = some (.int 1000000000 t)
  i_MOST_PERIODS : ∃ t, mg "MOST_PERIODS" = some (.int 12 t)
  i_MOST_LINES : ∃ t, mg "MOST_LINES" = some (.int 400 t)
  i_MOST_STARRED : ∃ t, mg "MOST_STARRED" = some (.int 8 t)
theorem mg_of {K : PySem.W.Frag} {h : Heap} {mg : Str → Option Value} (X : K.In h) (G : h.Ns mainGlobals mg) (c : Says K) : MG K mg where
  g_is_from := He.glo_ok X G (c.d.fact 0 (f := .glo "is_from") rfl)
  g_is_vector := He.glo_ok X G (c.d.fact 1 (f := .glo "is_vector") rfl)
  g_is_line := He.glo_ok X G (c.d.fact 2 (f := .glo "is_line") rfl)
  g_need_set := He.glo_ok X G (c.d.fact 3 (f := .glo "need_set") rfl)
  g_line_of := He.glo_ok X G (c.d.fact 4 (f := .glo "line_of") rfl)
  g_set_with := He.glo_ok X G (c.d.fact 5 (f := .glo "set_with") rfl)
  g_added := He.glo_ok X G (c.d.fact 6 (f := .glo "added") rfl)
  g_need_short := He.glo_ok X G (c.d.fact 7 (f := .glo "need_short") rfl)
  g_need_two := He.glo_ok X G (c.d.fact 8 (f := .glo "need_two") rfl)
  g_union := He.glo_ok X G (c.d.fact 9 (f := .glo "union") rfl)
  g_sum_of := He.glo_ok X G (c.d.fact 10 (f := .glo "sum_of") rfl)
  g_choices_from := He.glo_ok X G (c.d.fact 11 (f := .glo "choices_from") rfl)
  g_star := He.glo_ok X G (c.d.fact 12 (f := .glo "star") rfl)
  g_l_mixed := He.glo_ok X G (c.d.fact 13 (f := .glo "_law_mixed") rfl)
  g_l_begin := He.glo_ok X G (c.d.fact 14 (f := .glo "_law_begin") rfl)
  g_l_draw := He.glo_ok X G (c.d.fact 15 (f := .glo "_law_draw") rfl)
  g_l_row := He.glo_ok X G (c.d.fact 16 (f := .glo "_law_row") rfl)
  g_l_grid := He.glo_ok X G (c.d.fact 17 (f := .glo "_law_grid") rfl)
  g_l_fills := He.glo_ok X G (c.d.fact 18 (f := .glo "_law_fills") rfl)
  g_l_has := He.glo_ok X G (c.d.fact 19 (f := .glo "_law_has") rfl)
  g_l_like := He.glo_ok X G (c.d.fact 20 (f := .glo "_law_like") rfl)
  g_l_minus := He.glo_ok X G (c.d.fact 21 (f := .glo "_law_minus") rfl)
  g_l_lines := He.glo_ok X G (c.d.fact 22 (f := .glo "_law_lines") rfl)
  g_l_plus := He.glo_ok X G (c.d.fact 23 (f := .glo "_law_plus") rfl)
  g_l_clean := He.glo_ok X G (c.d.fact 24 (f := .glo "_law_clean") rfl)
  g_l_choices := He.glo_ok X G (c.d.fact 25 (f := .glo "_law_choices") rfl)
  g_l_star_lines := He.glo_ok X G (c.d.fact 26 (f := .glo "_law_star_lines") rfl)
  g_l_sums := He.glo_ok X G (c.d.fact 27 (f := .glo "_law_sums") rfl)
  g_l_star_rows := He.glo_ok X G (c.d.fact 28 (f := .glo "_law_star_rows") rfl)
  g_l_refusal := He.glo_ok X G (c.d.fact 29 (f := .glo "_law_refusal") rfl)
  g_l_refusals_right := He.glo_ok X G (c.d.fact 30 (f := .glo "_law_refusals_right") rfl)
  g_l_unions_right := He.glo_ok X G (c.d.fact 31 (f := .glo "_law_unions_right") rfl)
  g_l_great_right := He.glo_ok X G (c.d.fact 32 (f := .glo "_law_great_right") rfl)
  g_law := He.glo_ok X G (c.d.fact 33 (f := .glo "law") rfl)
  g_SayError := He.glo_ok X G (c.d.fact 34 (f := .glo "SayError") rfl)
  g_BadSet := He.glo_ok X G (c.d.fact 35 (f := .glo "BadSet") rfl)
  g_Unlike := He.glo_ok X G (c.d.fact 36 (f := .glo "Unlike") rfl)
  g_TooGreat := He.glo_ok X G (c.d.fact 37 (f := .glo "TooGreat") rfl)
  n_isinstance := He.free_ok X G (c.d.fact 38 (f := .free "isinstance") rfl)
  n_tuple := He.free_ok X G (c.d.fact 39 (f := .free "tuple") rfl)
  n_int := He.free_ok X G (c.d.fact 40 (f := .free "int") rfl)
  n_bool := He.free_ok X G (c.d.fact 41 (f := .free "bool") rfl)
  n_len := He.free_ok X G (c.d.fact 42 (f := .free "len") rfl)
  n_enumerate := He.free_ok X G (c.d.fact 43 (f := .free "enumerate") rfl)
  n_max := He.free_ok X G (c.d.fact 44 (f := .free "max") rfl)
  n_min := He.free_ok X G (c.d.fact 45 (f := .free "min") rfl)
  n_sorted := He.free_ok X G (c.d.fact 46 (f := .free "sorted") rfl)
  n_range := He.free_ok X G (c.d.fact 47 (f := .free "range") rfl)
  n_zip := He.free_ok X G (c.d.fact 48 (f := .free "zip") rfl)
  n_list := He.free_ok X G (c.d.fact 49 (f := .free "list") rfl)
  n_repr := He.free_ok X G (c.d.fact 50 (f := .free "repr") rfl)
  i_WIDEST := He.int_ok X G (c.d.fact 51 (f := .int "WIDEST" 4) rfl)
  i_MOST_NUMBER := He.int_ok X G (c.d.fact 52 (f := .int "MOST_NUMBER" 1000000000) rfl)
  i_MOST_PERIODS := He.int_ok X G (c.d.fact 53 (f := .int "MOST_PERIODS" 12) rfl)
  i_MOST_LINES := He.int_ok X G (c.d.fact 54 (f := .int "MOST_LINES" 400) rfl)
  i_MOST_STARRED := He.int_ok X G (c.d.fact 55 (f := .int "MOST_STARRED" 8) rfl)
structure DF (K : PySem.W.Frag) : Prop where
  d_is_from : FnP K "is_from" s_is_from (He.ga K "is_from") (fdOf K (He.ga K "is_from"))
  d_is_vector : FnP K "is_vector" s_is_vector (He.ga K "is_vector") (fdOf K (He.ga K "is_vector"))
  d_is_line : FnP K "is_line" s_is_line (He.ga K "is_line") (fdOf K (He.ga K "is_line"))
  d_need_set : FnP K "need_set" s_need_set (He.ga K "need_set") (fdOf K (He.ga K "need_set"))
  d_line_of : FnP K "line_of" s_line_of (He.ga K "line_of") (fdOf K (He.ga K "line_of"))
  d_set_with : FnP K "set_with" s_set_with (He.ga K "set_with") (fdOf K (He.ga K "set_with"))
  d_added : FnP K "added" s_added (He.ga K "added") (fdOf K (He.ga K "added"))
  d_need_short : FnP K "need_short" s_need_short (He.ga K "need_short") (fdOf K (He.ga K "need_short"))
  d_need_two : FnP K "need_two" s_need_two (He.ga K "need_two") (fdOf K (He.ga K "need_two"))
  d_union : FnP K "union" s_union (He.ga K "union") (fdOf K (He.ga K "union"))
  d_sum_of : FnP K "sum_of" s_sum_of (He.ga K "sum_of") (fdOf K (He.ga K "sum_of"))
  d_choices_from : FnP K "choices_from" s_choices_from (He.ga K "choices_from") (fdOf K (He.ga K "choices_from"))
  d_star : FnP K "star" s_star (He.ga K "star") (fdOf K (He.ga K "star"))
  d_l_mixed : FnP K "_law_mixed" s_l_mixed (He.ga K "_law_mixed") (fdOf K (He.ga K "_law_mixed"))
  d_l_begin : FnP K "_law_begin" s_l_begin (He.ga K "_law_begin") (fdOf K (He.ga K "_law_begin"))
  d_l_draw : FnP K "_law_draw" s_l_draw (He.ga K "_law_draw") (fdOf K (He.ga K "_law_draw"))
  d_l_row : FnP K "_law_row" s_l_row (He.ga K "_law_row") (fdOf K (He.ga K "_law_row"))
  d_l_grid : FnP K "_law_grid" s_l_grid (He.ga K "_law_grid") (fdOf K (He.ga K "_law_grid"))
  d_l_fills : FnP K "_law_fills" s_l_fills (He.ga K "_law_fills") (fdOf K (He.ga K "_law_fills"))
  d_l_has : FnP K "_law_has" s_l_has (He.ga K "_law_has") (fdOf K (He.ga K "_law_has"))
  d_l_like : FnP K "_law_like" s_l_like (He.ga K "_law_like") (fdOf K (He.ga K "_law_like"))
  d_l_minus : FnP K "_law_minus" s_l_minus (He.ga K "_law_minus") (fdOf K (He.ga K "_law_minus"))
  d_l_lines : FnP K "_law_lines" s_l_lines (He.ga K "_law_lines") (fdOf K (He.ga K "_law_lines"))
  d_l_plus : FnP K "_law_plus" s_l_plus (He.ga K "_law_plus") (fdOf K (He.ga K "_law_plus"))
  d_l_clean : FnP K "_law_clean" s_l_clean (He.ga K "_law_clean") (fdOf K (He.ga K "_law_clean"))
  d_l_choices : FnP K "_law_choices" s_l_choices (He.ga K "_law_choices") (fdOf K (He.ga K "_law_choices"))
  d_l_star_lines : FnP K "_law_star_lines" s_l_star_lines (He.ga K "_law_star_lines") (fdOf K (He.ga K "_law_star_lines"))
  d_l_sums : FnP K "_law_sums" s_l_sums (He.ga K "_law_sums") (fdOf K (He.ga K "_law_sums"))
  d_l_star_rows : FnP K "_law_star_rows" s_l_star_rows (He.ga K "_law_star_rows") (fdOf K (He.ga K "_law_star_rows"))
  d_l_refusal : FnP K "_law_refusal" s_l_refusal (He.ga K "_law_refusal") (fdOf K (He.ga K "_law_refusal"))
  d_l_refusals_right : FnP K "_law_refusals_right" s_l_refusals_right (He.ga K "_law_refusals_right") (fdOf K (He.ga K "_law_refusals_right"))
  d_l_unions_right : FnP K "_law_unions_right" s_l_unions_right (He.ga K "_law_unions_right") (fdOf K (He.ga K "_law_unions_right"))
  d_l_great_right : FnP K "_law_great_right" s_l_great_right (He.ga K "_law_great_right") (fdOf K (He.ga K "_law_great_right"))
  d_law : FnP K "law" s_law (He.ga K "law") (fdOf K (He.ga K "law"))
  i_bs : FnI K "BadSet.__init__" s_BadSet (He.ma K (He.ga K "BadSet") "__init__") (fdOf K (He.ma K (He.ga K "BadSet") "__init__"))
  i_un : FnI K "Unlike.__init__" s_Unlike (He.ma K (He.ga K "Unlike") "__init__") (fdOf K (He.ma K (He.ga K "Unlike") "__init__"))
  i_tg : FnI K "TooGreat.__init__" s_TooGreat (He.ma K (He.ga K "TooGreat") "__init__") (fdOf K (He.ma K (He.ga K "TooGreat") "__init__"))
theorem df_of {K : PySem.W.Frag} (c : Says K) : DF K where
  d_is_from := (c.d.def_ 0 (d := dOf "is_from" s_is_from) rfl).elim fun _ F => fdOf_eq F
  d_is_vector := (c.d.def_ 1 (d := dOf "is_vector" s_is_vector) rfl).elim fun _ F => fdOf_eq F
  d_is_line := (c.d.def_ 2 (d := dOf "is_line" s_is_line) rfl).elim fun _ F => fdOf_eq F
  d_need_set := (c.d.def_ 3 (d := dOf "need_set" s_need_set) rfl).elim fun _ F => fdOf_eq F
  d_line_of := (c.d.def_ 4 (d := dOf "line_of" s_line_of) rfl).elim fun _ F => fdOf_eq F
  d_set_with := (c.d.def_ 5 (d := dOf "set_with" s_set_with) rfl).elim fun _ F => fdOf_eq F
  d_added := (c.d.def_ 6 (d := dOf "added" s_added) rfl).elim fun _ F => fdOf_eq F
  d_need_short := (c.d.def_ 7 (d := dOf "need_short" s_need_short) rfl).elim fun _ F => fdOf_eq F
  d_need_two := (c.d.def_ 8 (d := dOf "need_two" s_need_two) rfl).elim fun _ F => fdOf_eq F
  d_union := (c.d.def_ 9 (d := dOf "union" s_union) rfl).elim fun _ F => fdOf_eq F
  d_sum_of := (c.d.def_ 10 (d := dOf "sum_of" s_sum_of) rfl).elim fun _ F => fdOf_eq F
  d_choices_from := (c.d.def_ 11 (d := dOf "choices_from" s_choices_from) rfl).elim fun _ F => fdOf_eq F
  d_star := (c.d.def_ 12 (d := dOf "star" s_star) rfl).elim fun _ F => fdOf_eq F
  d_l_mixed := (c.d.def_ 13 (d := dOf "_law_mixed" s_l_mixed) rfl).elim fun _ F => fdOf_eq F
  d_l_begin := (c.d.def_ 14 (d := dOf "_law_begin" s_l_begin) rfl).elim fun _ F => fdOf_eq F
  d_l_draw := (c.d.def_ 15 (d := dOf "_law_draw" s_l_draw) rfl).elim fun _ F => fdOf_eq F
  d_l_row := (c.d.def_ 16 (d := dOf "_law_row" s_l_row) rfl).elim fun _ F => fdOf_eq F
  d_l_grid := (c.d.def_ 17 (d := dOf "_law_grid" s_l_grid) rfl).elim fun _ F => fdOf_eq F
  d_l_fills := (c.d.def_ 18 (d := dOf "_law_fills" s_l_fills) rfl).elim fun _ F => fdOf_eq F
  d_l_has := (c.d.def_ 19 (d := dOf "_law_has" s_l_has) rfl).elim fun _ F => fdOf_eq F
  d_l_like := (c.d.def_ 20 (d := dOf "_law_like" s_l_like) rfl).elim fun _ F => fdOf_eq F
  d_l_minus := (c.d.def_ 21 (d := dOf "_law_minus" s_l_minus) rfl).elim fun _ F => fdOf_eq F
  d_l_lines := (c.d.def_ 22 (d := dOf "_law_lines" s_l_lines) rfl).elim fun _ F => fdOf_eq F
  d_l_plus := (c.d.def_ 23 (d := dOf "_law_plus" s_l_plus) rfl).elim fun _ F => fdOf_eq F
  d_l_clean := (c.d.def_ 24 (d := dOf "_law_clean" s_l_clean) rfl).elim fun _ F => fdOf_eq F
  d_l_choices := (c.d.def_ 25 (d := dOf "_law_choices" s_l_choices) rfl).elim fun _ F => fdOf_eq F
  d_l_star_lines := (c.d.def_ 26 (d := dOf "_law_star_lines" s_l_star_lines) rfl).elim fun _ F => fdOf_eq F
  d_l_sums := (c.d.def_ 27 (d := dOf "_law_sums" s_l_sums) rfl).elim fun _ F => fdOf_eq F
  d_l_star_rows := (c.d.def_ 28 (d := dOf "_law_star_rows" s_l_star_rows) rfl).elim fun _ F => fdOf_eq F
  d_l_refusal := (c.d.def_ 29 (d := dOf "_law_refusal" s_l_refusal) rfl).elim fun _ F => fdOf_eq F
  d_l_refusals_right := (c.d.def_ 30 (d := dOf "_law_refusals_right" s_l_refusals_right) rfl).elim fun _ F => fdOf_eq F
  d_l_unions_right := (c.d.def_ 31 (d := dOf "_law_unions_right" s_l_unions_right) rfl).elim fun _ F => fdOf_eq F
  d_l_great_right := (c.d.def_ 32 (d := dOf "_law_great_right" s_l_great_right) rfl).elim fun _ F => fdOf_eq F
  d_law := (c.d.def_ 33 (d := dOf "law" s_law) rfl).elim fun _ F => fdOf_eq F
  i_bs := (c.d.def_ 34 (d := iOf "BadSet" "BadSet.__init__" s_BadSet) rfl).elim fun _ F => fdOf_eq F
  i_un := (c.d.def_ 35 (d := iOf "Unlike" "Unlike.__init__" s_Unlike) rfl).elim fun _ F => fdOf_eq F
  i_tg := (c.d.def_ 36 (d := iOf "TooGreat" "TooGreat.__init__" s_TooGreat) rfl).elim fun _ F => fdOf_eq F
section
variable {K : PySem.W.Frag}
theorem b_is_from (D : DF K) : Binds K (fdOf K (He.ga K "is_from")) ["value", "least", "most"] [] := D.d_is_from.bindsN fun _ _ _ _ _ _ us hl => match us, hl with | [_, _, _], _ => rfl
theorem b_is_vector (D : DF K) : Binds K (fdOf K (He.ga K "is_vector")) ["many", "value"] [] := D.d_is_vector.bindsN fun _ _ _ _ _ _ us hl => match us, hl with | [_, _], _ => rfl
theorem b_is_line (D : DF K) : Binds K (fdOf K (He.ga K "is_line")) ["many", "value"] [] := D.d_is_line.bindsN fun _ _ _ _ _ _ us hl => match us, hl with | [_, _], _ => rfl
theorem b_need_set (D : DF K) : Binds K (fdOf K (He.ga K "need_set")) ["value"] [] := D.d_need_set.bindsN fun _ _ _ _ _ _ us hl => match us, hl with | [_], _ => rfl
theorem b_line_of (D : DF K) : Binds K (fdOf K (He.ga K "line_of")) ["base", "rows"] [] := D.d_line_of.bindsN fun _ _ _ _ _ _ us hl => match us, hl with | [_, _], _ => rfl
theorem b_set_with (D : DF K) : Binds K (fdOf K (He.ga K "set_with")) ["many", "lines"] [] := D.d_set_with.bindsN fun _ _ _ _ _ _ us hl => match us, hl with | [_, _], _ => rfl
theorem b_added (D : DF K) : Binds K (fdOf K (He.ga K "added")) ["row", "step", "often"] [] := D.d_added.bindsN fun _ _ _ _ _ _ us hl => match us, hl with | [_, _, _], _ => rfl
theorem b_need_short (D : DF K) : Binds K (fdOf K (He.ga K "need_short")) ["row"] [] := D.d_need_short.bindsN fun _ _ _ _ _ _ us hl => match us, hl with | [_], _ => rfl
theorem b_need_two (D : DF K) : Binds K (fdOf K (He.ga K "need_two")) ["one", "other"] [] := D.d_need_two.bindsN fun _ _ _ _ _ _ us hl => match us, hl with | [_, _], _ => rfl
theorem b_union (D : DF K) : Binds K (fdOf K (He.ga K "union")) ["one", "other"] [] := D.d_union.bindsN fun _ _ _ _ _ _ us hl => match us, hl with | [_, _], _ => rfl
theorem b_sum_of (D : DF K) : Binds K (fdOf K (He.ga K "sum_of")) ["one", "other"] [] := D.d_sum_of.bindsN fun _ _ _ _ _ _ us hl => match us, hl with | [_, _], _ => rfl
theorem b_choices_from (D : DF K) : Binds K (fdOf K (He.ga K "choices_from")) ["count", "first"] [] := D.d_choices_from.bindsN fun _ _ _ _ _ _ us hl => match us, hl with | [_, _], _ => rfl
theorem b_star (D : DF K) : Binds K (fdOf K (He.ga K "star")) ["value"] [] := D.d_star.bindsN fun _ _ _ _ _ _ us hl => match us, hl with | [_], _ => rfl
theorem b_l_mixed (D : DF K) : Binds K (fdOf K (He.ga K "_law_mixed")) ["_law_cell", "_law_k"] [] := D.d_l_mixed.bindsN fun _ _ _ _ _ _ us hl => match us, hl with | [_, _], _ => rfl
theorem b_l_begin (D : DF K) : Binds K (fdOf K (He.ga K "_law_begin")) ["_law_script"] [] := D.d_l_begin.bindsN fun _ _ _ _ _ _ us hl => match us, hl with | [_], _ => rfl
theorem b_l_draw (D : DF K) : Binds K (fdOf K (He.ga K "_law_draw")) ["_law_state", "_law_limit"] [] := D.d_l_draw.bindsN fun _ _ _ _ _ _ us hl => match us, hl with | [_, _], _ => rfl
theorem b_l_row (D : DF K) : Binds K (fdOf K (He.ga K "_law_row")) ["_law_state", "_law_many_so", "_law_bound"] [] := D.d_l_row.bindsN fun _ _ _ _ _ _ us hl => match us, hl with | [_, _, _], _ => rfl
theorem b_l_grid (D : DF K) : Binds K (fdOf K (He.ga K "_law_grid")) ["_law_many_so", "_law_bound"] [] := D.d_l_grid.bindsN fun _ _ _ _ _ _ us hl => match us, hl with | [_, _], _ => rfl
theorem b_l_fills (D : DF K) : Binds K (fdOf K (He.ga K "_law_fills")) ["_law_left", "_law_periods_so"] [] := D.d_l_fills.bindsN fun _ _ _ _ _ _ us hl => match us, hl with | [_, _], _ => rfl
theorem b_l_has (D : DF K) : Binds K (fdOf K (He.ga K "_law_has")) ["_law_lines_so", "_law_row_here"] [] := D.d_l_has.bindsN fun _ _ _ _ _ _ us hl => match us, hl with | [_, _], _ => rfl
theorem b_l_like (D : DF K) : Binds K (fdOf K (He.ga K "_law_like")) ["_law_got", "_law_due"] [] := D.d_l_like.bindsN fun _ _ _ _ _ _ us hl => match us, hl with | [_, _], _ => rfl
theorem b_l_minus (D : DF K) : Binds K (fdOf K (He.ga K "_law_minus")) ["_law_row_here", "_law_base"] [] := D.d_l_minus.bindsN fun _ _ _ _ _ _ us hl => match us, hl with | [_, _], _ => rfl
theorem b_l_lines (D : DF K) : Binds K (fdOf K (He.ga K "_law_lines")) ["_law_state", "_law_many_so"] [] := D.d_l_lines.bindsN fun _ _ _ _ _ _ us hl => match us, hl with | [_, _], _ => rfl
theorem b_l_plus (D : DF K) : Binds K (fdOf K (He.ga K "_law_plus")) ["_law_one", "_law_other"] [] := D.d_l_plus.bindsN fun _ _ _ _ _ _ us hl => match us, hl with | [_, _], _ => rfl
theorem b_l_clean (D : DF K) : Binds K (fdOf K (He.ga K "_law_clean")) ["_law_lines_so"] [] := D.d_l_clean.bindsN fun _ _ _ _ _ _ us hl => match us, hl with | [_], _ => rfl
theorem b_l_choices (D : DF K) : Binds K (fdOf K (He.ga K "_law_choices")) ["_law_many_so"] [] := D.d_l_choices.bindsN fun _ _ _ _ _ _ us hl => match us, hl with | [_], _ => rfl
theorem b_l_star_lines (D : DF K) : Binds K (fdOf K (He.ga K "_law_star_lines")) ["_law_value"] [] := D.d_l_star_lines.bindsN fun _ _ _ _ _ _ us hl => match us, hl with | [_], _ => rfl
theorem b_l_sums (D : DF K) : Binds K (fdOf K (He.ga K "_law_sums")) ["_law_one", "_law_other", "_law_grid_here"] [] := D.d_l_sums.bindsN fun _ _ _ _ _ _ us hl => match us, hl with | [_, _, _], _ => rfl
theorem b_l_star_rows (D : DF K) : Binds K (fdOf K (He.ga K "_law_star_rows")) ["_law_one", "_law_grid_here"] [] := D.d_l_star_rows.bindsN fun _ _ _ _ _ _ us hl => match us, hl with | [_, _], _ => rfl
theorem b_l_refusal (D : DF K) : Binds K (fdOf K (He.ga K "_law_refusal")) ["_law_word", "_law_one", "_law_other"] [] := D.d_l_refusal.bindsN fun _ _ _ _ _ _ us hl => match us, hl with | [_, _, _], _ => rfl
theorem b_l_refusals_right (D : DF K) : Binds K (fdOf K (He.ga K "_law_refusals_right")) ["_law_state", "_law_one"] [] := D.d_l_refusals_right.bindsN fun _ _ _ _ _ _ us hl => match us, hl with | [_, _], _ => rfl
theorem b_l_unions_right (D : DF K) : Binds K (fdOf K (He.ga K "_law_unions_right")) [] [] := D.d_l_unions_right.bindsN fun _ _ _ _ _ _ us hl => match us, hl with | [], _ => rfl
theorem b_l_great_right (D : DF K) : Binds K (fdOf K (He.ga K "_law_great_right")) [] [] := D.d_l_great_right.bindsN fun _ _ _ _ _ _ us hl => match us, hl with | [], _ => rfl
theorem b_law (D : DF K) : Binds K (fdOf K (He.ga K "law")) ["_law_script"] [] := D.d_law.bindsN fun _ _ _ _ _ _ us hl => match us, hl with | [_], _ => rfl
theorem bi_bs (D : DF K) : Binds K (fdOf K (He.ma K (He.ga K "BadSet") "__init__")) ["self", "place"] [] := D.i_bs.bindsN fun _ _ _ _ _ _ us hl => match us, hl with | [_, _], _ => rfl
theorem bi_un (D : DF K) : Binds K (fdOf K (He.ma K (He.ga K "Unlike") "__init__")) ["self", "value"] [] := D.i_un.bindsN fun _ _ _ _ _ _ us hl => match us, hl with | [_, _], _ => rfl
theorem bi_tg (D : DF K) : Binds K (fdOf K (He.ma K (He.ga K "TooGreat") "__init__")) ["self", "most"] [] := D.i_tg.bindsN fun _ _ _ _ _ _ us hl => match us, hl with | [_, _], _ => rfl
end
abbrev N_is_from : List Str := ["value", "least", "most"]
theorem sc_is_from : FnScope N_is_from ["value", "least", "most"] (defScope s_is_from) := ⟨rfl, rfl, rfl, by decide +kernel, rfl, by decide +kernel, by decide +kernel⟩
abbrev N_is_vector : List Str := ["many", "value", "number"]
theorem sc_is_vector : FnScope N_is_vector ["many", "value"] (defScope s_is_vector) := ⟨rfl, rfl, rfl, by decide +kernel, rfl, by decide +kernel, by decide +kernel⟩
abbrev N_is_line : List Str := ["many", "value", "last", "period"]
theorem sc_is_line : FnScope N_is_line ["many", "value"] (defScope s_is_line) := ⟨rfl, rfl, rfl, by decide +kernel, rfl, by decide +kernel, by decide +kernel⟩
abbrev N_need_set : List Str := ["value", "many", "lines", "last", "index", "line"]
theorem sc_need_set : FnScope N_need_set ["value"] (defScope s_need_set) := ⟨rfl, rfl, rfl, by decide +kernel, rfl, by decide +kernel, by decide +kernel⟩
abbrev N_line_of : List Str := ["base", "rows", "steps", "row"]
theorem sc_line_of : FnScope N_line_of ["base", "rows"] (defScope s_line_of) := ⟨rfl, rfl, rfl, by decide +kernel, rfl, by decide +kernel, by decide +kernel⟩
abbrev N_set_with : List Str := ["many", "lines", "kept", "line"]
theorem sc_set_with : FnScope N_set_with ["many", "lines"] (defScope s_set_with) := ⟨rfl, rfl, rfl, by decide +kernel, rfl, by decide +kernel, by decide +kernel⟩
abbrev N_added : List Str := ["row", "step", "often", "number", "more"]
theorem sc_added : FnScope N_added ["row", "step", "often"] (defScope s_added) := ⟨rfl, rfl, rfl, by decide +kernel, rfl, by decide +kernel, by decide +kernel⟩
abbrev N_need_short : List Str := ["row"]
theorem sc_need_short : FnScope N_need_short ["row"] (defScope s_need_short) := ⟨rfl, rfl, rfl, by decide +kernel, rfl, by decide +kernel, by decide +kernel⟩
abbrev N_need_two : List Str := ["one", "other", "many"]
theorem sc_need_two : FnScope N_need_two ["one", "other"] (defScope s_need_two) := ⟨rfl, rfl, rfl, by decide +kernel, rfl, by decide +kernel, by decide +kernel⟩
abbrev N_union : List Str := ["one", "other"]
theorem sc_union : FnScope N_union ["one", "other"] (defScope s_union) := ⟨rfl, rfl, rfl, by decide +kernel, rfl, by decide +kernel, by decide +kernel⟩
abbrev N_sum_of : List Str := ["one", "other", "many", "found", "base", "periods", "start", "steps"]
theorem sc_sum_of : FnScope N_sum_of ["one", "other"] (defScope s_sum_of) := ⟨rfl, rfl, rfl, by decide +kernel, rfl, by decide +kernel, by decide +kernel⟩
abbrev N_choices_from : List Str := ["count", "first", "found", "index", "rest"]
theorem sc_choices_from : FnScope N_choices_from ["count", "first"] (defScope s_choices_from) := ⟨rfl, rfl, rfl, by decide +kernel, rfl, by decide +kernel, by decide +kernel⟩
abbrev N_star : List Str := ["value", "many", "lines", "zeros", "found", "choice", "start", "steps", "index"]
theorem sc_star : FnScope N_star ["value"] (defScope s_star) := ⟨rfl, rfl, rfl, by decide +kernel, rfl, by decide +kernel, by decide +kernel⟩
abbrev N_l_mixed : List Str := ["_law_cell", "_law_k"]
theorem sc_l_mixed : FnScope N_l_mixed ["_law_cell", "_law_k"] (defScope s_l_mixed) := ⟨rfl, rfl, rfl, by decide +kernel, rfl, by decide +kernel, by decide +kernel⟩
abbrev N_l_begin : List Str := ["_law_script", "_law_cells_so", "_law_cell"]
theorem sc_l_begin : FnScope N_l_begin ["_law_script"] (defScope s_l_begin) := ⟨rfl, rfl, rfl, by decide +kernel, rfl, by decide +kernel, by decide +kernel⟩
abbrev N_l_draw : List Str := ["_law_state", "_law_limit", "_law_at", "_law_place", "_law_left", "_law_number"]
theorem sc_l_draw : FnScope N_l_draw ["_law_state", "_law_limit"] (defScope s_l_draw) := ⟨rfl, rfl, rfl, by decide +kernel, rfl, by decide +kernel, by decide +kernel⟩
abbrev N_l_row : List Str := ["_law_state", "_law_many_so", "_law_bound", "_law_place"]
theorem sc_l_row : FnScope N_l_row ["_law_state", "_law_many_so", "_law_bound"] (defScope s_l_row) := ⟨rfl, rfl, rfl, by decide +kernel, rfl, by decide +kernel, by decide +kernel⟩
abbrev N_l_grid : List Str := ["_law_many_so", "_law_bound", "_law_found", "_law_step", "_law_more", "_law_row_here", "_law_number"]
theorem sc_l_grid : FnScope N_l_grid ["_law_many_so", "_law_bound"] (defScope s_l_grid) := ⟨rfl, rfl, rfl, by decide +kernel, rfl, by decide +kernel, by decide +kernel⟩
abbrev N_l_fills : List Str := ["_law_left", "_law_periods_so", "_law_here", "_law_step", "_law_number", "_law_less"]
theorem sc_l_fills : FnScope N_l_fills ["_law_left", "_law_periods_so"] (defScope s_l_fills) := ⟨rfl, rfl, rfl, by decide +kernel, rfl, by decide +kernel, by decide +kernel⟩
abbrev N_l_has : List Str := ["_law_lines_so", "_law_row_here", "_law_base", "_law_periods_so", "_law_number", "_law_less"]
theorem sc_l_has : FnScope N_l_has ["_law_lines_so", "_law_row_here"] (defScope s_l_has) := ⟨rfl, rfl, rfl, by decide +kernel, rfl, by decide +kernel, by decide +kernel⟩
abbrev N_l_like : List Str := ["_law_got", "_law_due"]
theorem sc_l_like : FnScope N_l_like ["_law_got", "_law_due"] (defScope s_l_like) := ⟨rfl, rfl, rfl, by decide +kernel, rfl, by decide +kernel, by decide +kernel⟩
abbrev N_l_minus : List Str := ["_law_row_here", "_law_base", "_law_number", "_law_less"]
theorem sc_l_minus : FnScope N_l_minus ["_law_row_here", "_law_base"] (defScope s_l_minus) := ⟨rfl, rfl, rfl, by decide +kernel, rfl, by decide +kernel, by decide +kernel⟩
abbrev N_l_lines : List Str := ["_law_state", "_law_many_so", "_law_found", "_law_many_lines", "_law_k", "_law_rows", "_law_j", "_law_row_here", "_law_line"]
theorem sc_l_lines : FnScope N_l_lines ["_law_state", "_law_many_so"] (defScope s_l_lines) := ⟨rfl, rfl, rfl, by decide +kernel, rfl, by decide +kernel, by decide +kernel⟩
abbrev N_l_plus : List Str := ["_law_one", "_law_other", "_law_number", "_law_more"]
theorem sc_l_plus : FnScope N_l_plus ["_law_one", "_law_other"] (defScope s_l_plus) := ⟨rfl, rfl, rfl, by decide +kernel, rfl, by decide +kernel, by decide +kernel⟩
abbrev N_l_clean : List Str := ["_law_lines_so", "_law_found", "_law_base", "_law_rows", "_law_kept", "_law_row_here", "_law_line"]
theorem sc_l_clean : FnScope N_l_clean ["_law_lines_so"] (defScope s_l_clean) := ⟨rfl, rfl, rfl, by decide +kernel, rfl, by decide +kernel, by decide +kernel⟩
abbrev N_l_choices : List Str := ["_law_many_so", "_law_found", "_law_k", "_law_row_here"]
theorem sc_l_choices : FnScope N_l_choices ["_law_many_so"] (defScope s_l_choices) := ⟨rfl, rfl, rfl, by decide +kernel, rfl, by decide +kernel, by decide +kernel⟩
abbrev N_l_star_lines : List Str := ["_law_value", "_law_zeros", "_law_found", "_law_choice", "_law_base", "_law_rows", "_law_k", "_law_line"]
theorem sc_l_star_lines : FnScope N_l_star_lines ["_law_value"] (defScope s_l_star_lines) := ⟨rfl, rfl, rfl, by decide +kernel, rfl, by decide +kernel, by decide +kernel⟩
abbrev N_l_sums : List Str := ["_law_one", "_law_other", "_law_grid_here", "_law_found", "_law_row_here", "_law_parts", "_law_part"]
theorem sc_l_sums : FnScope N_l_sums ["_law_one", "_law_other", "_law_grid_here"] (defScope s_l_sums) := ⟨rfl, rfl, rfl, by decide +kernel, rfl, by decide +kernel, by decide +kernel⟩
abbrev N_l_star_rows : List Str := ["_law_one", "_law_grid_here", "_law_found", "_law_zeros", "_law_row_here", "_law_parts", "_law_part"]
theorem sc_l_star_rows : FnScope N_l_star_rows ["_law_one", "_law_grid_here"] (defScope s_l_star_rows) := ⟨rfl, rfl, rfl, by decide +kernel, rfl, by decide +kernel, by decide +kernel⟩
abbrev N_l_refusal : List Str := ["_law_word", "_law_one", "_law_other", "_law_found", "error"]
theorem sc_l_refusal : FnScope N_l_refusal ["_law_word", "_law_one", "_law_other"] (defScope s_l_refusal) := ⟨rfl, rfl, rfl, by decide +kernel, rfl, by decide +kernel, by decide +kernel⟩
abbrev N_l_refusals_right : List Str := ["_law_state", "_law_one", "_law_many_so", "_law_wide_so", "_law_odd", "_law_word", "_law_points", "_law_k", "_law_great", "_law_seven", "_law_seven_more", "_law_due", "_law_told"]
theorem sc_l_refusals_right : FnScope N_l_refusals_right ["_law_state", "_law_one"] (defScope s_l_refusals_right) := ⟨rfl, rfl, rfl, by decide +kernel, rfl, by decide +kernel, by decide +kernel⟩
abbrev N_l_unions_right : List Str := ["_law_points", "_law_k", "_law_told"]
theorem sc_l_unions_right : FnScope N_l_unions_right [] (defScope s_l_unions_right) := ⟨rfl, rfl, rfl, by decide +kernel, rfl, by decide +kernel, by decide +kernel⟩
abbrev N_l_great_right : List Str := ["_law_steps", "_law_k", "_law_great", "_law_most", "_law_worlds", "_law_word", "_law_lines_so", "_law_bound", "_law_told", "_law_lets"]
theorem sc_l_great_right : FnScope N_l_great_right [] (defScope s_l_great_right) := ⟨rfl, rfl, rfl, by decide +kernel, rfl, by decide +kernel, by decide +kernel⟩
abbrev N_law : List Str := ["_law_script", "_law_state", "_law_many_so", "_law_one", "_law_other", "_law_both", "_law_starred", "_law_base", "_law_rows", "_law_line", "_law_grid_here", "_law_firsts", "_law_row_here", "_law_seconds", "_law_together", "_law_sums_here", "_law_stars", "_law_due_sums", "_law_due_stars", "_law_picks", "_law_k"]
theorem sc_law : FnScope N_law ["_law_script"] (defScope s_law) := ⟨rfl, rfl, rfl, by decide +kernel, rfl, by decide +kernel, by decide +kernel⟩
theorem sci_bs : FnScope ["self", "place"] ["self", "place"] (defScope s_BadSet) := ⟨rfl, rfl, rfl, by decide +kernel, rfl, by decide +kernel, by decide +kernel⟩
theorem sci_un : FnScope ["self", "value"] ["self", "value"] (defScope s_Unlike) := ⟨rfl, rfl, rfl, by decide +kernel, rfl, by decide +kernel, by decide +kernel⟩
theorem sci_tg : FnScope ["self", "most"] ["self", "most"] (defScope s_TooGreat) := ⟨rfl, rfl, rfl, by decide +kernel, rfl, by decide +kernel, by decide +kernel⟩
end Wh

namespace Wh
open PySem PySem.Spec PyProof.Rows L2

def m_is_from : Ev → M Fl := (retM (andV (isiM "int" (varM 0)) (andV (notV (isiM "bool" (varM 0))) (chainM leD leD (varM 1) (varM 0) (varM 2)))))
def F_is_from : List Sl → M PyData := bodyM N_is_from.length m_is_from
def m_is_vector : Ev → M Fl := (seqM (iffM (orM (notM (testM (isiM "tuple" (varM 1)))) (testM (opM neD (callM lenD (lCons (varM 1) lNil)) (varM 0)))) (retM (kT false)) skipM)
  (seqM (forM (tgN 2) (itM tupleM (varM 1)) (iffM (notM (testM (defM (lenM 3 F_is_from) (aCons (varM 2) (aCons (kI 0) (aCons (kI 1000000000) aNil)))))) (retM (kT false)) skipM))
  (retM (kT true))))
def F_is_vector : List Sl → M PyData := bodyM N_is_vector.length m_is_vector
def m_is_line : Ev → M Fl := (seqM (iffM (orM (notM (testM (isiM "tuple" (varM 1)))) (orM (testM (opM neD (callM lenD (lCons (varM 1) lNil)) (kI 2))) (notM (testM (defM (lenM 2 F_is_vector) (aCons (varM 0) (aCons (opM ixD (varM 1) (kI 0)) aNil))))))) (retM (kT false)) skipM)
  (seqM (iffM (orM (notM (testM (isiM "tuple" (opM ixD (varM 1) (kI 1))))) (testM (opM gtD (callM lenD (lCons (opM ixD (varM 1) (kI 1)) lNil)) (kI 12)))) (retM (kT false)) skipM)
  (seqM (setM 2 (opM mulD (tupM (lCons (kI 0) lNil)) (varM 0)))
  (seqM (forM (tgN 3) (itM tupleM (opM ixD (varM 1) (kI 1))) (seqM (iffM (orM (notM (testM (defM (lenM 2 F_is_vector) (aCons (varM 0) (aCons (varM 3) aNil))))) (notM (testM (opM ltTD (varM 2) (varM 3))))) (retM (kT false)) skipM)
  (setM 2 (varM 3))))
  (retM (kT true))))))
def F_is_line : List Sl → M PyData := bodyM N_is_line.length m_is_line
def m_need_set : Ev → M Fl := (seqM (iffM (orM (notM (testM (isiM "tuple" (varM 0)))) (testM (opM neD (callM lenD (lCons (varM 0) lNil)) (kI 2)))) (raiseM .bs (kI 0)) skipM)
  (seqM (asgM (tgTup 2 (tgCons (tgN 1) (tgCons (tgN 2) tgNil))) (varM 0))
  (seqM (iffM (orM (notM (testM (defM (lenM 3 F_is_from) (aCons (varM 1) (aCons (kI 1) (aCons (kI 4) aNil)))))) (notM (testM (isiM "tuple" (varM 2))))) (raiseM .bs (kI 0)) skipM)
  (seqM (iffM (testM (opM gtD (callM lenD (lCons (varM 2) lNil)) (kI 400))) (raiseM .tg (kI 400)) skipM)
  (seqM (setM 3 kN)
  (seqM (forM (tgTup 2 (tgCons (tgN 4) (tgCons (tgN 5) tgNil))) (enumM (lCons (varM 2) lNil)) (seqM (iffM (orM (notM (testM (defM (lenM 2 F_is_line) (aCons (varM 1) (aCons (varM 5) aNil))))) (andM (testM (opM (isND true) (varM 3) kN)) (notM (testM (opM ltTD (varM 3) (varM 5)))))) (raiseM .bs (opM addD (varM 4) (kI 1))) skipM)
  (setM 3 (varM 5))))
  (retM (varM 0))))))))
def F_need_set : List Sl → M PyData := bodyM N_need_set.length m_need_set
def m_line_of : Ev → M Fl := (seqM (setM 2 (dcM [3] (tgN 3) (itM tupleM (varM 1)) (testM (opM gtD (callM maxD (lCons (varM 3) lNil)) (kI 0))) (varM 3)))
  (seqM (iffM (testM (opM gtD (callM lenD (lCons (varM 2) lNil)) (kI 12))) (raiseM .tg (kI 12)) skipM)
  (retM (tupM (lCons (varM 0) (lCons (callM tupleD (lCons (callM sortedD (lCons (varM 2) lNil)) lNil)) lNil))))))
def F_line_of : List Sl → M PyData := bodyM N_line_of.length m_line_of
def m_set_with : Ev → M Fl := (seqM (setM 2 (dcM [3] (tgN 3) (itM seqM' (varM 1)) yesM (varM 3)))
  (seqM (iffM (testM (opM gtD (callM lenD (lCons (varM 2) lNil)) (kI 400))) (raiseM .tg (kI 400)) skipM)
  (retM (tupM (lCons (varM 0) (lCons (callM tupleD (lCons (callM sortedD (lCons (varM 2) lNil)) lNil)) lNil))))))
def F_set_with : List Sl → M PyData := bodyM N_set_with.length m_set_with
def m_added : Ev → M Fl := (retM (callM tupleD (lCons (lcM [3, 4] (tgTup 2 (tgCons (tgN 3) (tgCons (tgN 4) tgNil))) (zipM (lCons (varM 0) (lCons (varM 1) lNil))) yesM (opM addD (varM 3) (opM mulD (varM 2) (varM 4)))) lNil)))
def F_added : List Sl → M PyData := bodyM N_added.length m_added
def m_need_short : Ev → M Fl := (seqM (iffM (testM (opM gtD (callM maxD (lCons (varM 0) lNil)) (kI 1000000000))) (raiseM .tg (kI 1000000000)) skipM)
  (retM (varM 0)))
def F_need_short : List Sl → M PyData := bodyM N_need_short.length m_need_short
def m_need_two : Ev → M Fl := (seqM (setM 2 (opM ixD (defM (lenM 1 F_need_set) (aCons (varM 0) aNil)) (kI 0)))
  (seqM (iffM (testM (opM neD (opM ixD (defM (lenM 1 F_need_set) (aCons (varM 1) aNil)) (kI 0)) (varM 2))) (raiseM .un (varM 1)) skipM)
  (retM (varM 2))))
def F_need_two : List Sl → M PyData := bodyM N_need_two.length m_need_two
def m_union : Ev → M Fl := (retM (defM (lenM 2 F_set_with) (aCons (defM (lenM 2 F_need_two) (aCons (varM 0) (aCons (varM 1) aNil))) (aCons (opM addD (opM ixD (varM 0) (kI 1)) (opM ixD (varM 1) (kI 1))) aNil))))
def F_union : List Sl → M PyData := bodyM N_union.length m_union
def m_sum_of : Ev → M Fl := (seqM (setM 2 (defM (lenM 2 F_need_two) (aCons (varM 0) (aCons (varM 1) aNil))))
  (seqM (iffM (testM (opM gtD (opM mulD (callM lenD (lCons (opM ixD (varM 0) (kI 1)) lNil)) (callM lenD (lCons (opM ixD (varM 1) (kI 1)) lNil))) (kI 400))) (raiseM .tg (kI 400)) skipM)
  (seqM (ownM 3 lNil)
  (seqM (forM (tgTup 2 (tgCons (tgN 4) (tgCons (tgN 5) tgNil))) (itM tupleM (opM ixD (varM 0) (kI 1))) (forM (tgTup 2 (tgCons (tgN 6) (tgCons (tgN 7) tgNil))) (itM tupleM (opM ixD (varM 1) (kI 1))) (appM 3 (defM (lenM 2 F_line_of) (aCons (defM (lenM 1 F_need_short) (aCons (defM (lenM 3 F_added) (aCons (varM 4) (aCons (varM 6) (aCons (kI 1) aNil)))) aNil)) (aCons (opM addD (varM 5) (varM 7)) aNil))))))
  (fun ρ => (retM (defM (lenM 2 F_set_with) (aCons (varM 2) (aCons (varM 3) aNil)))) (frz 3 ρ))))))
def F_sum_of : List Sl → M PyData := bodyM N_sum_of.length m_sum_of
def m_choices_from (Fr : List Sl → M PyData) : Ev → M Fl := (seqM (ownM 2 lNil)
  (seqM (forM (tgN 3) (rng2M (lCons (varM 1) (lCons (varM 0) lNil))) (seqM (appM 2 (tupM (lCons (varM 3) lNil)))
  (forM (tgN 4) (itM listM (defM (lenM 2 Fr) (aCons (varM 0) (aCons (opM addD (varM 3) (kI 1)) aNil)))) (appM 2 (opM addD (tupM (lCons (varM 3) lNil)) (varM 4))))))
  (fun ρ => (retM (varM 2)) (frz 2 ρ))))
def F_choices_from : Nat → List Sl → M PyData
  | 0 => fun _ => M.no
  | n + 1 => bodyM N_choices_from.length (m_choices_from (F_choices_from n))
def m_star : Ev → M Fl := (seqM (asgM (tgTup 2 (tgCons (tgN 1) (tgCons (tgN 2) tgNil))) (defM (lenM 1 F_need_set) (aCons (varM 0) aNil)))
  (seqM (iffM (testM (opM gtD (callM lenD (lCons (varM 2) lNil)) (kI 8))) (raiseM .tg (kI 400)) skipM)
  (seqM (setM 3 (opM mulD (tupM (lCons (kI 0) lNil)) (varM 1)))
  (seqM (ownM 4 (lCons (tupM (lCons (varM 3) (lCons (tupM lNil) lNil))) lNil))
  (seqM (forM (tgN 5) (itM listM (defM (lenM 2 (F_choices_from 10)) (aCons (callM lenD (lCons (varM 2) lNil)) (aCons (kI 0) aNil)))) (seqM (setM 6 (varM 3))
  (seqM (setM 7 (tupM lNil))
  (seqM (forM (tgN 8) (itM tupleM (varM 5)) (seqM (setM 6 (defM (lenM 3 F_added) (aCons (varM 6) (aCons (opM ixD (opM ixD (varM 2) (varM 8)) (kI 0)) (aCons (kI 1) aNil)))))
  (setM 7 (opM addD (opM addD (varM 7) (opM ixD (opM ixD (varM 2) (varM 8)) (kI 1))) (tupM (lCons (opM ixD (opM ixD (varM 2) (varM 8)) (kI 0)) lNil))))))
  (appM 4 (defM (lenM 2 F_line_of) (aCons (defM (lenM 1 F_need_short) (aCons (varM 6) aNil)) (aCons (varM 7) aNil))))))))
  (fun ρ => (retM (defM (lenM 2 F_set_with) (aCons (varM 1) (aCons (varM 4) aNil)))) (frz 4 ρ)))))))
def F_star : List Sl → M PyData := bodyM N_star.length m_star
def m_l_mixed : Ev → M Fl := (seqM (setM 0 (opM modD (callM intC (lCons (varM 0) lNil)) (kI 2147483647)))
  (retM (opM modD (opM mulD (opM modD (opM addD (opM addD (opM mulD (varM 0) (opM addD (kI 48271) (opM mulD (opM mulD (kI 2) (varM 1)) (varM 1)))) (opM mulD (kI 69621) (varM 1))) (kI 11)) (kI 2147483647)) (kI 69621)) (kI 2147483629))))
def F_l_mixed : List Sl → M PyData := bodyM N_l_mixed.length m_l_mixed
def m_l_draw : Ev → M Fl := (seqM (setM 2 (stM 0 stAt))
  (seqM (stPutAt 0 (opM addD (varM 2) (kI 1)))
  (seqM (setM 3 (opM modD (callM intC (lCons (varM 2) lNil)) (stM 0 stLen)))
  (seqM (setM 4 (stIx 0 stLeft (varM 3)))
  (seqM (iffM (testM (opM gtD (varM 4) (kI 0))) (seqM (stPutLeft 0 (varM 3) (opM divD (varM 4) (varM 1)))
  (retM (opM modD (callM intC (lCons (varM 4) lNil)) (varM 1)))) skipM)
  (seqM (setM 5 (defM (lenM 2 F_l_mixed) (aCons (defM (lenM 2 F_l_mixed) (aCons (stIx 0 stCell (varM 3)) (aCons (varM 2) aNil))) (aCons (opM addD (kI 40) (varM 2)) aNil))))
  (retM (opM modD (opM divD (callM intC (lCons (opM addD (opM mulD (varM 5) (kI 2147483647)) (defM (lenM 2 F_l_mixed) (aCons (varM 5) (aCons (opM addD (kI 7) (varM 2)) aNil)))) lNil)) (kI 64)) (varM 1)))))))))
def F_l_draw : List Sl → M PyData := bodyM N_l_draw.length m_l_draw
def m_l_row : Ev → M Fl := (retM (callM tupleD (lCons (lcM [3] (tgN 3) (rng1M (lCons (varM 1) lNil)) yesM (defM (lenM 2 F_l_draw) (aSt 0 (aCons (varM 2) aNil)))) lNil)))
def F_l_row : List Sl → M PyData := bodyM N_l_row.length m_l_row
def m_l_grid : Ev → M Fl := (seqM (setM 2 (lstM (lCons (tupM lNil) lNil)))
  (seqM (forM (tgN 3) (rng1M (lCons (varM 0) lNil)) (seqM (setM 4 (lstM lNil))
  (seqM (forM (tgN 5) (itM listM (varM 2)) (setM 4 (opM addD (varM 4) (lcM [6] (tgN 6) (rng1M (lCons (varM 1) lNil)) yesM (opM addD (varM 5) (tupM (lCons (varM 6) lNil)))))))
  (setM 2 (callM listD (lCons (varM 4) lNil))))))
  (retM (varM 2))))
def F_l_grid : List Sl → M PyData := bodyM N_l_grid.length m_l_grid
def m_l_fills (Fr : List Sl → M PyData) : Ev → M Fl := (seqM (iffM (testM (opM ltD (callM minD (lCons (varM 0) lNil)) (kI 0))) (retM (kT false)) skipM)
  (seqM (iffM (orM (testM (opM eqD (callM maxD (lCons (varM 0) lNil)) (kI 0))) (testM (opM eqD (varM 1) (tupM lNil)))) (retM (opM eqD (callM maxD (lCons (varM 0) lNil)) (kI 0))) skipM)
  (seqM (setM 2 (varM 0))
  (seqM (forM (tgN 3) (rng1M (lCons (opM addD (callM maxD (lCons (varM 0) lNil)) (kI 1)) lNil)) (seqM (iffM (andM (testM (opM geD (callM minD (lCons (varM 2) lNil)) (kI 0))) (testM (defM (lenM 2 Fr) (aCons (varM 2) (aCons (sliceM (varM 1) (some 1) none) aNil))))) (retM (kT true)) skipM)
  (setM 2 (callM tupleD (lCons (lcM [4, 5] (tgTup 2 (tgCons (tgN 4) (tgCons (tgN 5) tgNil))) (zipM (lCons (varM 2) (lCons (opM ixD (varM 1) (kI 0)) lNil))) yesM (opM subD (varM 4) (varM 5))) lNil)))))
  (retM (kT false))))))
def F_l_fills : Nat → List Sl → M PyData
  | 0 => fun _ => M.no
  | n + 1 => bodyM N_l_fills.length (m_l_fills (F_l_fills n))
def m_l_has : Ev → M Fl := (seqM (forM (tgTup 2 (tgCons (tgN 2) (tgCons (tgN 3) tgNil))) (itM tupleM (varM 0)) (iffM (testM (defM (lenM 2 (F_l_fills 14)) (aCons (callM tupleD (lCons (lcM [4, 5] (tgTup 2 (tgCons (tgN 4) (tgCons (tgN 5) tgNil))) (zipM (lCons (varM 1) (lCons (varM 2) lNil))) yesM (opM subD (varM 4) (varM 5))) lNil)) (aCons (varM 3) aNil)))) (retM (kT true)) skipM))
  (retM (kT false)))
def F_l_has : List Sl → M PyData := bodyM N_l_has.length m_l_has
def m_l_like : Ev → M Fl := (retM (opM eqD (callM reprD (lCons (varM 0) lNil)) (callM reprD (lCons (varM 1) lNil))))
def F_l_like : List Sl → M PyData := bodyM N_l_like.length m_l_like
def m_l_minus : Ev → M Fl := (retM (callM tupleD (lCons (lcM [2, 3] (tgTup 2 (tgCons (tgN 2) (tgCons (tgN 3) tgNil))) (zipM (lCons (varM 0) (lCons (varM 1) lNil))) yesM (opM subD (varM 2) (varM 3))) lNil)))
def F_l_minus : List Sl → M PyData := bodyM N_l_minus.length m_l_minus
def m_l_lines : Ev → M Fl := (seqM (parOM 2 3 lNil (defM (lenM 2 F_l_draw) (aSt 0 (aCons (kI 4) aNil))))
  (seqM (forM (tgN 4) (rng1M (lCons (varM 3) lNil)) (seqM (ownM 5 lNil)
  (seqM (forM (tgN 6) (rng1M (lCons (defM (lenM 2 F_l_draw) (aSt 0 (aCons (ifV (testM (opM ltD (varM 3) (kI 3))) (kI 3) (kI 2)) aNil))) lNil)) (seqM (setM 7 (defM (lenM 3 F_l_row) (aSt 0 (aCons (varM 1) (aCons (kI 3) aNil)))))
  (iffM (andM (testM (opM gtD (callM maxD (lCons (varM 7) lNil)) (kI 0))) (testM (inSlM true (varM 7) 5))) (appM 5 (varM 7)) skipM)))
  (fun ρ => (seqM (setM 8 (tupM (lCons (defM (lenM 3 F_l_row) (aSt 0 (aCons (varM 1) (aCons (kI 3) aNil)))) (lCons (callM tupleD (lCons (callM sortedD (lCons (varM 5) lNil)) lNil)) lNil))))
  (iffM (testM (inSlM true (varM 8) 2)) (appM 2 (varM 8)) skipM)) (frz 5 ρ)))))
  (fun ρ => (retM (tupM (lCons (varM 1) (lCons (callM tupleD (lCons (callM sortedD (lCons (varM 2) lNil)) lNil)) lNil)))) (frz 2 ρ))))
def F_l_lines : List Sl → M PyData := bodyM N_l_lines.length m_l_lines
def m_l_plus : Ev → M Fl := (retM (callM tupleD (lCons (lcM [2, 3] (tgTup 2 (tgCons (tgN 2) (tgCons (tgN 3) tgNil))) (zipM (lCons (varM 0) (lCons (varM 1) lNil))) yesM (opM addD (varM 2) (varM 3))) lNil)))
def F_l_plus : List Sl → M PyData := bodyM N_l_plus.length m_l_plus
def m_l_clean : Ev → M Fl := (seqM (ownM 1 lNil)
  (seqM (forM (tgTup 2 (tgCons (tgN 2) (tgCons (tgN 3) tgNil))) (itM seqM' (varM 0)) (seqM (ownM 4 lNil)
  (seqM (forM (tgN 5) (itM tupleM (varM 3)) (iffM (andM (testM (opM gtD (callM maxD (lCons (varM 5) lNil)) (kI 0))) (testM (inSlM true (varM 5) 4))) (appM 4 (varM 5)) skipM))
  (fun ρ => (seqM (setM 6 (tupM (lCons (varM 2) (lCons (callM tupleD (lCons (callM sortedD (lCons (varM 4) lNil)) lNil)) lNil))))
  (iffM (testM (inSlM true (varM 6) 1)) (appM 1 (varM 6)) skipM)) (frz 4 ρ)))))
  (fun ρ => (retM (callM tupleD (lCons (callM sortedD (lCons (varM 1) lNil)) lNil))) (frz 1 ρ))))
def F_l_clean : List Sl → M PyData := bodyM N_l_clean.length m_l_clean
def m_l_choices : Ev → M Fl := (seqM (setM 1 (lstM (lCons (lstM lNil) lNil)))
  (seqM (forM (tgN 2) (rng1M (lCons (varM 0) lNil)) (setM 1 (opM addD (varM 1) (lcM [3] (tgN 3) (itM listM (varM 1)) yesM (opM addD (varM 3) (lstM (lCons (varM 2) lNil)))))))
  (retM (sliceM (varM 1) (some 1) none))))
def F_l_choices : List Sl → M PyData := bodyM N_l_choices.length m_l_choices
def m_l_star_lines : Ev → M Fl := (seqM (setM 1 (opM mulD (tupM (lCons (kI 0) lNil)) (opM ixD (varM 0) (kI 0))))
  (seqM (ownM 2 (lCons (tupM (lCons (varM 1) (lCons (tupM lNil) lNil))) lNil))
  (seqM (forM (tgN 3) (itM listM (defM (lenM 1 F_l_choices) (aCons (callM lenD (lCons (opM ixD (varM 0) (kI 1)) lNil)) aNil))) (seqM (parM 4 5 (lCons (varM 1) (lCons (tupM lNil) lNil)))
  (seqM (forM (tgN 6) (itM listM (varM 3)) (seqM (setM 7 (opM ixD (opM ixD (varM 0) (kI 1)) (varM 6)))
  (parM 4 5 (lCons (defM (lenM 2 F_l_plus) (aCons (varM 4) (aCons (opM ixD (varM 7) (kI 0)) aNil))) (lCons (opM addD (opM addD (varM 5) (tupM (lCons (opM ixD (varM 7) (kI 0)) lNil))) (opM ixD (varM 7) (kI 1))) lNil)))))
  (appM 2 (tupM (lCons (varM 4) (lCons (varM 5) lNil)))))))
  (fun ρ => (retM (defM (lenM 1 F_l_clean) (aCons (varM 2) aNil))) (frz 2 ρ)))))
def F_l_star_lines : List Sl → M PyData := bodyM N_l_star_lines.length m_l_star_lines
def m_l_sums : Ev → M Fl := (seqM (ownM 3 lNil)
  (seqM (forM (tgN 4) (itM listM (varM 2)) (seqM (setM 5 (lcM [6] (tgN 6) (itM listM (varM 0)) (testM (opM geD (callM minD (lCons (defM (lenM 2 F_l_minus) (aCons (varM 4) (aCons (varM 6) aNil))) lNil)) (kI 0))) (varM 6)))
  (iffM (testM (opM neD (lcM [6] (tgN 6) (itM listM (varM 5)) (testM (inSlM false (defM (lenM 2 F_l_minus) (aCons (varM 4) (aCons (varM 6) aNil))) 1)) (kI 1)) (lstM lNil))) (appM 3 (varM 4)) skipM)))
  (fun ρ => (retM (varM 3)) (frz 3 ρ))))
def F_l_sums : List Sl → M PyData := bodyM N_l_sums.length m_l_sums
def m_l_star_rows : Ev → M Fl := (seqM (parOM 2 3 (lCons (opM ixD (varM 1) (kI 0)) lNil) (opM ixD (varM 1) (kI 0)))
  (seqM (forM (tgN 4) (itM listM (sliceM (varM 1) (some 1) none)) (seqM (setM 5 (lcM [6] (tgN 6) (itM listM (varM 0)) (andM (testM (opM neD (varM 6) (varM 3))) (testM (opM geD (callM minD (lCons (defM (lenM 2 F_l_minus) (aCons (varM 4) (aCons (varM 6) aNil))) lNil)) (kI 0)))) (varM 6)))
  (iffM (testM (opM neD (lcM [6] (tgN 6) (itM listM (varM 5)) (testM (inSlM false (defM (lenM 2 F_l_minus) (aCons (varM 4) (aCons (varM 6) aNil))) 2)) (kI 1)) (lstM lNil))) (appM 2 (varM 4)) skipM)))
  (fun ρ => (retM (varM 2)) (frz 2 ρ))))
def F_l_star_rows : List Sl → M PyData := bodyM N_l_star_rows.length m_l_star_rows
def mb_l_refusal : Ev → M PyData := pickM (testM (opM eqD (varM 0) (kS "union"))) (defM (lenM 2 F_union) (aCons (varM 1) (aCons (varM 2) aNil))) (pickM (testM (opM eqD (varM 0) (kS "sum"))) (defM (lenM 2 F_sum_of) (aCons (varM 1) (aCons (varM 2) aNil))) (defM (lenM 1 F_star) (aCons (varM 1) aNil)))
def m_l_refusal : Ev → M Fl := seqM (setM 3 kN) (seqM (tryM mb_l_refusal 3 4) (retM (varM 3)))
def F_l_refusal : List Sl → M PyData := bodyM N_l_refusal.length m_l_refusal
def m_l_refusals_right : Ev → M Fl := (seqM (setM 2 (opM ixD (varM 1) (kI 0)))
  (seqM (parM 3 4 (lCons (tupM (lCons (opM addD (varM 2) (kI 1)) (lCons (tupM lNil) lNil))) (lCons (tupM (lCons (varM 2) (lCons (tupM (lCons (tupM (lCons (opM mulD (tupM (lCons (kI 1) lNil)) (opM addD (varM 2) (kI 1))) (lCons (tupM lNil) lNil))) lNil)) lNil))) lNil)))
  (seqM (forM (tgN 5) (itM listM (lstM (lCons (kS "union") (lCons (kS "sum") lNil)))) (seqM (iffM (notM (testM (defM (lenM 2 F_l_like) (aCons (defM (lenM 3 F_l_refusal) (aCons (varM 5) (aCons (varM 1) (aCons (varM 3) aNil)))) (aCons (lstM (lCons (kS "Unlike") (lCons (varM 3) lNil))) aNil))))) (retM (kT false)) skipM)
  (seqM (iffM (notM (testM (defM (lenM 2 F_l_like) (aCons (defM (lenM 3 F_l_refusal) (aCons (varM 5) (aCons (varM 3) (aCons (varM 1) aNil)))) (aCons (lstM (lCons (kS "Unlike") (lCons (varM 1) lNil))) aNil))))) (retM (kT false)) skipM)
  (seqM (iffM (notM (testM (defM (lenM 2 F_l_like) (aCons (defM (lenM 3 F_l_refusal) (aCons (varM 5) (aCons (varM 4) (aCons (varM 3) aNil)))) (aCons (lstM (lCons (kS "BadSet") (lCons (kI 1) lNil))) aNil))))) (retM (kT false)) skipM)
  (iffM (notM (testM (defM (lenM 2 F_l_like) (aCons (defM (lenM 3 F_l_refusal) (aCons (varM 5) (aCons (varM 1) (aCons kN aNil)))) (aCons (lstM (lCons (kS "BadSet") (lCons (kI 0) lNil))) aNil))))) (retM (kT false)) skipM)))))
  (seqM (iffM (notM (testM (defM (lenM 2 F_l_like) (aCons (defM (lenM 3 F_l_refusal) (aCons (kS "star") (aCons (varM 4) (aCons kN aNil)))) (aCons (lstM (lCons (kS "BadSet") (lCons (kI 1) lNil))) aNil))))) (retM (kT false)) skipM)
  (seqM (setM 6 (callM tupleD (lCons (lcM [7] (tgN 7) (rng1M (lCons (kI 21) lNil)) yesM (tupM (lCons (tupM (lCons (opM addD (varM 7) (kI 1)) lNil)) (lCons (tupM lNil) lNil)))) lNil)))
  (seqM (iffM (notM (testM (defM (lenM 2 F_l_like) (aCons (defM (lenM 3 F_l_refusal) (aCons (kS "sum") (aCons (tupM (lCons (kI 1) (lCons (varM 6) lNil))) (aCons (tupM (lCons (kI 1) (lCons (sliceM (varM 6) none (some 20)) lNil))) aNil)))) (aCons (lstM (lCons (kS "TooGreat") (lCons (kI 400) lNil))) aNil))))) (retM (kT false)) skipM)
  (seqM (iffM (testM (opM (isND true) (defM (lenM 3 F_l_refusal) (aCons (kS "sum") (aCons (tupM (lCons (kI 1) (lCons (sliceM (varM 6) none (some 20)) lNil))) (aCons (tupM (lCons (kI 1) (lCons (sliceM (varM 6) none (some 20)) lNil))) aNil)))) kN)) (retM (kT false)) skipM)
  (seqM (iffM (notM (testM (defM (lenM 2 F_l_like) (aCons (defM (lenM 3 F_l_refusal) (aCons (kS "star") (aCons (tupM (lCons (kI 1) (lCons (sliceM (varM 6) none (some 9)) lNil))) (aCons kN aNil)))) (aCons (lstM (lCons (kS "TooGreat") (lCons (kI 400) lNil))) aNil))))) (retM (kT false)) skipM)
  (seqM (parM 8 9 (lCons (tupM (lCons (kI 1) (lCons (tupM (lCons (tupM (lCons (tupM (lCons (opM powD (kI 10) (kI 9)) lNil)) (lCons (tupM lNil) lNil))) lNil)) lNil))) (lCons (callM tupleD (lCons (lcM [7] (tgN 7) (rng1M (lCons (kI 7) lNil)) yesM (tupM (lCons (kI 7) (lCons (varM 7) lNil)))) lNil)) lNil)))
  (seqM (iffM (notM (testM (defM (lenM 2 F_l_like) (aCons (defM (lenM 3 F_l_refusal) (aCons (kS "sum") (aCons (varM 8) (aCons (tupM (lCons (kI 1) (lCons (sliceM (varM 6) none (some 1)) lNil))) aNil)))) (aCons (lstM (lCons (kS "TooGreat") (lCons (opM powD (kI 10) (kI 9)) lNil))) aNil))))) (retM (kT false)) skipM)
  (seqM (setM 10 (callM tupleD (lCons (lcM [7] (tgN 7) (rng1M (lCons (opM addD (kI 6) (defM (lenM 2 F_l_draw) (aSt 0 (aCons (kI 2) aNil)))) lNil)) yesM (tupM (lCons (kI 8) (lCons (varM 7) lNil)))) lNil)))
  (seqM (setM 11 (ifV (testM (opM leD (opM addD (callM lenD (lCons (varM 10) lNil)) (kI 6)) (kI 12))) kN (lstM (lCons (kS "TooGreat") (lCons (kI 12) lNil)))))
  (seqM (setM 12 (defM (lenM 3 F_l_refusal) (aCons (kS "sum") (aCons (tupM (lCons (kI 2) (lCons (tupM (lCons (tupM (lCons (tupM (lCons (kI 0) (lCons (kI 0) lNil))) (lCons (sliceM (varM 9) none (some 6)) lNil))) lNil)) lNil))) (aCons (tupM (lCons (kI 2) (lCons (tupM (lCons (tupM (lCons (tupM (lCons (kI 0) (lCons (kI 1) lNil))) (lCons (varM 10) lNil))) lNil)) lNil))) aNil)))))
  (retM (defM (lenM 2 F_l_like) (aCons (varM 12) (aCons (varM 11) aNil)))))))))))))))))
def F_l_refusals_right : List Sl → M PyData := bodyM N_l_refusals_right.length m_l_refusals_right
def m_l_unions_right : Ev → M Fl := (seqM (setM 0 (callM tupleD (lCons (lcM [1] (tgN 1) (rng1M (lCons (kI 402) lNil)) yesM (tupM (lCons (tupM (lCons (varM 1) lNil)) (lCons (tupM lNil) lNil)))) lNil)))
  (seqM (setM 2 (defM (lenM 3 F_l_refusal) (aCons (kS "union") (aCons (tupM (lCons (kI 1) (lCons (sliceM (varM 0) none (some 201)) lNil))) (aCons (tupM (lCons (kI 1) (lCons (sliceM (varM 0) (some 201) none) lNil))) aNil)))))
  (seqM (iffM (notM (testM (defM (lenM 2 F_l_like) (aCons (varM 2) (aCons (lstM (lCons (kS "TooGreat") (lCons (kI 400) lNil))) aNil))))) (retM (kT false)) skipM)
  (seqM (iffM (notM (testM (defM (lenM 2 F_l_like) (aCons (defM (lenM 2 F_union) (aCons (tupM (lCons (kI 1) (lCons (sliceM (varM 0) none (some 200)) lNil))) (aCons (tupM (lCons (kI 1) (lCons (sliceM (varM 0) (some 200) (some 400)) lNil))) aNil))) (aCons (tupM (lCons (kI 1) (lCons (sliceM (varM 0) none (some 400)) lNil))) aNil))))) (retM (kT false)) skipM)
  (retM (defM (lenM 2 F_l_like) (aCons (defM (lenM 2 F_union) (aCons (tupM (lCons (kI 1) (lCons (sliceM (varM 0) none (some 201)) lNil))) (aCons (tupM (lCons (kI 1) (lCons (sliceM (varM 0) none (some 201)) lNil))) aNil))) (aCons (tupM (lCons (kI 1) (lCons (sliceM (varM 0) none (some 201)) lNil))) aNil))))))))
def F_l_unions_right : List Sl → M PyData := bodyM N_l_unions_right.length m_l_unions_right
def m_l_great_right : Ev → M Fl := (seqM (setM 0 (callM tupleD (lCons (lcM [1] (tgN 1) (rng2M (lCons (kI 1) (lCons (kI 13) lNil))) yesM (tupM (lCons (varM 1) (lCons (opM subD (kI 13) (varM 1)) lNil)))) lNil)))
  (seqM (parM 2 3 (lCons (opM powD (kI 10) (kI 9)) (lCons (callM tupleD (lCons (lcM [1] (tgN 1) (rng1M (lCons (kI 6) lNil)) yesM (tupM (lCons (varM 1) (lCons (kI 20) lNil)))) lNil)) lNil)))
  (seqM (ownM 4 (lCons (tupM (lCons (kS "star") (lCons (tupM (lCons (tupM (lCons (tupM (lCons (kI 0) (lCons (kI 5) lNil))) (lCons (varM 0) lNil))) lNil)) (lCons (kI 12) lNil)))) (lCons (tupM (lCons (kS "star") (lCons (tupM (lCons (tupM (lCons (tupM (lCons (kI 0) (lCons (kI 5) lNil))) (lCons (varM 0) lNil))) (lCons (tupM (lCons (tupM (lCons (varM 2) (lCons (varM 2) lNil))) (lCons (tupM lNil) lNil))) lNil))) (lCons (kI 12) lNil)))) lNil)))
  (seqM (appM 4 (tupM (lCons (kS "star") (lCons (tupM (lCons (tupM (lCons (tupM (lCons (kI 0) (lCons (opM mulD (kI 6) (opM powD (kI 10) (kI 8))) lNil))) (lCons (tupM lNil) lNil))) (lCons (tupM (lCons (tupM (lCons (kI 0) (lCons (opM mulD (kI 7) (opM powD (kI 10) (kI 8))) lNil))) (lCons (varM 0) lNil))) lNil))) (lCons (varM 2) lNil)))))
  (seqM (appM 4 (tupM (lCons (kS "sum") (lCons (tupM (lCons (tupM (lCons (tupM (lCons (kI 0) (lCons (kI 0) lNil))) (lCons (sliceM (varM 0) none (some 7)) lNil))) (lCons (tupM (lCons (tupM (lCons (varM 2) (lCons (kI 0) lNil))) (lCons (tupM lNil) lNil))) lNil))) (lCons (kI 12) lNil)))))
  (seqM (appM 4 (tupM (lCons (kS "sum") (lCons (tupM (lCons (tupM (lCons (tupM (lCons (varM 2) (lCons (kI 0) lNil))) (lCons (sliceM (varM 0) none (some 7)) lNil))) lNil)) (lCons (varM 2) lNil)))))
  (fun ρ => (seqM (forM (tgTup 3 (tgCons (tgN 5) (tgCons (tgN 6) (tgCons (tgN 7) tgNil)))) (itM listM (varM 4)) (seqM (setM 8 (defM (lenM 3 F_l_refusal) (aCons (varM 5) (aCons (tupM (lCons (kI 2) (lCons (varM 6) lNil))) (aCons (tupM (lCons (kI 2) (lCons (tupM (lCons (tupM (lCons (tupM (lCons (kI 1) (lCons (kI 0) lNil))) (lCons (varM 3) lNil))) lNil)) lNil))) aNil)))))
  (iffM (notM (testM (defM (lenM 2 F_l_like) (aCons (varM 8) (aCons (lstM (lCons (kS "TooGreat") (lCons (varM 7) lNil))) aNil))))) (retM (kT false)) skipM)))
  (seqM (ownM 9 (lCons (tupM (lCons (tupM (lCons (tupM (lCons (kI 0) (lCons (kI 5) lNil))) (lCons (sliceM (varM 0) none (some 11)) lNil))) lNil)) (lCons (tupM (lCons (tupM (lCons (tupM (lCons (kI 1) (lCons (kI 12) lNil))) (lCons (varM 0) lNil))) lNil)) (lCons (tupM (lCons (tupM (lCons (tupM (lCons (kI 0) (lCons (kI 0) lNil))) (lCons (varM 0) lNil))) lNil)) lNil))))
  (seqM (appM 9 (tupM (lCons (tupM (lCons (tupM (lCons (kI 0) (lCons (opM mulD (kI 4) (opM powD (kI 10) (kI 8))) lNil))) (lCons (tupM lNil) lNil))) (lCons (tupM (lCons (tupM (lCons (kI 0) (lCons (opM mulD (kI 6) (opM powD (kI 10) (kI 8))) lNil))) (lCons (tupM lNil) lNil))) lNil))))
  (fun ρ => (seqM (forM (tgN 6) (itM listM (varM 9)) (iffM (testM (opM (isND true) (defM (lenM 3 F_l_refusal) (aCons (kS "star") (aCons (tupM (lCons (kI 2) (lCons (varM 6) lNil))) (aCons kN aNil)))) kN)) (retM (kT false)) skipM))
  (retM (opM (isND false) (defM (lenM 3 F_l_refusal) (aCons (kS "sum") (aCons (tupM (lCons (kI 2) (lCons (tupM (lCons (tupM (lCons (tupM (lCons (opM subD (varM 2) (kI 1)) (lCons (kI 0) lNil))) (lCons (sliceM (varM 0) none (some 6)) lNil))) lNil)) lNil))) (aCons (tupM (lCons (kI 2) (lCons (tupM (lCons (tupM (lCons (tupM (lCons (kI 1) (lCons (kI 0) lNil))) (lCons (varM 3) lNil))) lNil)) lNil))) aNil)))) kN))) (frz 9 ρ))))) (frz 4 ρ))))))))
def F_l_great_right : List Sl → M PyData := bodyM N_l_great_right.length m_l_great_right
def m_law_t : Ev → M Bool := (orM (notM (testM (defM (lenM 0 F_l_unions_right) aNil))) (notM (testM (defM (lenM 0 F_l_great_right) aNil))))
def m_law_rest : Ev → M Fl := (seqM (setM 2 (opM addD (kI 1) (defM (lenM 2 F_l_draw) (aSt 1 (aCons (kI 2) aNil)))))
  (seqM (asgM (tgTup 2 (tgCons (tgN 3) (tgCons (tgN 4) tgNil))) (tupM (lCons (defM (lenM 2 F_l_lines) (aSt 1 (aCons (varM 2) aNil))) (lCons (defM (lenM 2 F_l_lines) (aSt 1 (aCons (varM 2) aNil))) lNil))))
  (seqM (iffM (notM (testM (defM (lenM 2 F_l_refusals_right) (aSt 1 (aCons (varM 3) aNil))))) (retM (kT false)) skipM)
  (seqM (parM 5 6 (lCons (lstM lNil) (lCons (defM (lenM 1 F_l_star_lines) (aCons (varM 3) aNil)) lNil)))
  (seqM (forM (tgTup 2 (tgCons (tgN 7) (tgCons (tgN 8) tgNil))) (itM tupleM (opM ixD (varM 3) (kI 1))) (setM 5 (opM addD (varM 5) (lcM [9] (tgN 9) (itM tupleM (opM ixD (varM 4) (kI 1))) yesM (tupM (lCons (defM (lenM 2 F_l_plus) (aCons (varM 7) (aCons (opM ixD (varM 9) (kI 0)) aNil))) (lCons (opM addD (varM 8) (opM ixD (varM 9) (kI 1))) lNil)))))))
  (seqM (iffM (notM (testM (defM (lenM 2 F_l_like) (aCons (defM (lenM 2 F_union) (aCons (varM 3) (aCons (varM 4) aNil))) (aCons (tupM (lCons (varM 2) (lCons (defM (lenM 1 F_l_clean) (aCons (opM addD (opM ixD (varM 3) (kI 1)) (opM ixD (varM 4) (kI 1))) aNil)) lNil))) aNil))))) (retM (kT false)) skipM)
  (seqM (iffM (notM (testM (defM (lenM 2 F_l_like) (aCons (defM (lenM 2 F_sum_of) (aCons (varM 3) (aCons (varM 4) aNil))) (aCons (tupM (lCons (varM 2) (lCons (defM (lenM 1 F_l_clean) (aCons (varM 5) aNil)) lNil))) aNil))))) (retM (kT false)) skipM)
  (seqM (iffM (notM (testM (defM (lenM 2 F_l_like) (aCons (defM (lenM 1 F_star) (aCons (varM 3) aNil)) (aCons (tupM (lCons (varM 2) (lCons (varM 6) lNil))) aNil))))) (retM (kT false)) skipM)
  (seqM (setM 10 (defM (lenM 2 F_l_grid) (aCons (varM 2) (aCons (kI 7) aNil))))
  (seqM (setM 11 (lcM [12] (tgN 12) (itM listM (varM 10)) (testM (defM (lenM 2 F_l_has) (aCons (opM ixD (varM 3) (kI 1)) (aCons (varM 12) aNil)))) (varM 12)))
  (seqM (setM 13 (lcM [12] (tgN 12) (itM listM (varM 10)) (testM (defM (lenM 2 F_l_has) (aCons (opM ixD (varM 4) (kI 1)) (aCons (varM 12) aNil)))) (varM 12)))
  (seqM (par3M 14 15 16 (lCons (opM ixD (defM (lenM 2 F_union) (aCons (varM 3) (aCons (varM 4) aNil))) (kI 1)) (lCons (opM ixD (defM (lenM 2 F_sum_of) (aCons (varM 3) (aCons (varM 4) aNil))) (kI 1)) (lCons (opM ixD (defM (lenM 1 F_star) (aCons (varM 3) aNil)) (kI 1)) lNil))))
  (seqM (parM 17 18 (lCons (defM (lenM 3 F_l_sums) (aCons (varM 11) (aCons (varM 13) (aCons (varM 10) aNil)))) (lCons (defM (lenM 2 F_l_star_rows) (aCons (varM 11) (aCons (varM 10) aNil))) lNil)))
  (seqM (forM (tgN 12) (itM listM (varM 10)) (seqM (iffM (testM (opM neD (defM (lenM 2 F_l_has) (aCons (varM 14) (aCons (varM 12) aNil))) (orV (inSlM false (varM 12) 11) (inSlM false (varM 12) 13)))) (retM (kT false)) skipM)
  (iffM (testM (opM neD (defM (lenM 2 F_l_has) (aCons (varM 15) (aCons (varM 12) aNil))) (inSlM false (varM 12) 17))) (retM (kT false)) skipM)))
  (seqM (setM 19 (lcM [20] (tgN 20) (rng1M (lCons (kI 8) lNil)) yesM (defM (lenM 2 F_l_draw) (aSt 1 (aCons (callM lenD (lCons (varM 10) lNil)) aNil)))))
  (seqM (forM (tgN 12) (itM listM (lcM [20] (tgN 20) (itM listM (varM 19)) yesM (opM ixD (varM 10) (varM 20)))) (iffM (testM (opM neD (defM (lenM 2 F_l_has) (aCons (varM 16) (aCons (varM 12) aNil))) (inSlM false (varM 12) 18))) (retM (kT false)) skipM))
  (retM (kT true))))))))))))))))))
end Wh

namespace Wh
open PySem PySem.Spec PyProof.Rows L2

section
variable {P : Program} {w : World} {K : PySem.W.Frag} {mg : Str → Option Value} {base : Heap}

theorem fnD_no {κ : Cl → Addr} {k : Nat} {f : Addr} {fd : FuncData} {ps : List Str} : FnD κ P w K mg base k f fd ps (fun _ => M.no) :=
  ⟨fun vs H Q E ⟨_, _, _, _, hl, _⟩ => hl, fun A outer s H args us vs Q E _ _ _ _ _ ⟨S, G, w, as, hl, _, _, _, hp⟩ => by
    unfold lenM at hp
    exact (post_if hp).2.elim⟩
theorem ini_bs {CX : CXT} (V : MG K mg) (D : DF K) (EX : ExcK K) : FnOk P w K mg base CX 1 (He.ma K (He.ga K "BadSet") "__init__") (fdOf K (He.ma K (He.ga K "BadSet") "__init__")) ["self", "place"] (spI (He.ga K "BadSet") (fld .bs)) :=
  ini_ok EX.bs D.i_bs sci_bs rfl rfl (by decide) (by decide) fun cdv A outer s H E => pe_sayinit rfl V.g_SayError EX.say (pa_cons (pe_var rfl (.inl rfl) (by decide) (by decide)) (pa_cons pe_str pa_nil))
theorem ini_un {CX : CXT} (V : MG K mg) (D : DF K) (EX : ExcK K) : FnOk P w K mg base CX 1 (He.ma K (He.ga K "Unlike") "__init__") (fdOf K (He.ma K (He.ga K "Unlike") "__init__")) ["self", "value"] (spI (He.ga K "Unlike") (fld .un)) :=
  ini_ok EX.un D.i_un sci_un rfl rfl (by decide) (by decide) fun cdv A outer s H E => pe_sayinit rfl V.g_SayError EX.say (pa_cons (pe_var rfl (.inl rfl) (by decide) (by decide)) (pa_cons pe_str pa_nil))
theorem ini_tg {CX : CXT} (V : MG K mg) (D : DF K) (EX : ExcK K) : FnOk P w K mg base CX 1 (He.ma K (He.ga K "TooGreat") "__init__") (fdOf K (He.ma K (He.ga K "TooGreat") "__init__")) ["self", "most"] (spI (He.ga K "TooGreat") (fld .tg)) :=
  ini_ok EX.tg D.i_tg sci_tg rfl rfl (by decide) (by decide) fun cdv A outer s H E => pe_sayinit rfl V.g_SayError EX.say (pa_cons (pe_var rfl (.inl rfl) (by decide) (by decide)) (pa_cons pe_str pa_nil))
end
end Wh

namespace Wh
open PySem PySem.Spec PyProof.Rows L2

section
variable {P : Program} {w : World} {K : PySem.W.Frag} {mg : Str → Option Value} {base : Heap}

theorem ok_is_from (V : MG K mg) (D : DF K) (EX : ExcK K) : FnD (kap K) P w K mg base 1 (He.ga K "is_from") (fdOf K (He.ga K "is_from")) ["value", "least", "most"] F_is_from := by
  refine fnD_of (k := 0) (N := N_is_from) (m := m_is_from) D.d_is_from sc_is_from fun cdv A outer s H E hgd hr => ⟨_, (dss_one (ds_ret (de_and (de_isi (.inr (.inl rfl)) (de_var 0) (by rfl) V.n_isinstance (by rfl) V.n_int bt_int) (de_and (de_not (de_isi (.inr (.inr rfl)) (de_var 0) (by rfl) V.n_isinstance (by rfl) V.n_bool bt_bool)) (de_one (de_chain2 (de_var 1) (de_var 0) (de_var 2) (fun a b c => pe_chain op_le op_le a b c)))))))⟩
theorem ok_is_vector (V : MG K mg) (D : DF K) (EX : ExcK K) : FnD (kap K) P w K mg base 2 (He.ga K "is_vector") (fdOf K (He.ga K "is_vector")) ["many", "value"] F_is_vector := by
  refine fnD_of (k := 1) (N := N_is_vector) (m := m_is_vector) D.d_is_vector sc_is_vector fun cdv A outer s H E hgd hr => ⟨_, (dss_cons (ds_if (DW.t (dw_or (dt_not (dt_val (de_isi (.inl rfl) (de_var 1) (by rfl) V.n_isinstance (by rfl) V.n_tuple bt_tuple))) (dw_or1 (dt_cmp (op_neD (by exact hu64 hr)) rd_neD (de_callB call_lenD rd_lenD (by rfl) V.n_len bt_len (dl_cons (de_var 1) dl_nil)) (de_var 0) rfl)))) (dss_one (ds_ret de_bl)) dss_nil)
    (dss_cons (ds_for (by exact passes_of rfl) (by rfl) (di_tup (de_var 1)) (dg_name 2 (by exact sc_is_vector.nd)) (dss_one (ds_if (dt_not (dt_val (de_call (by exact px_of) (by exact hgd) (ok_is_from (P := P) (w := w) (K := K) (mg := mg) (base := base) V D EX) (by exact hr.mono (by decide)) D.d_is_from.kp (b_is_from D) V.g_is_from (by rfl) (da_cons (de_var 2) (da_cons de_int (da_cons (de_glob (by rfl) (Classical.choose_spec V.i_MOST_NUMBER)) da_nil)))))) (dss_one (ds_ret de_bl)) dss_nil)))
    (dss_one (ds_ret de_bl))))⟩
theorem ok_is_line (V : MG K mg) (D : DF K) (EX : ExcK K) : FnD (kap K) P w K mg base 3 (He.ga K "is_line") (fdOf K (He.ga K "is_line")) ["many", "value"] F_is_line := by
  refine fnD_of (k := 2) (N := N_is_line) (m := m_is_line) D.d_is_line sc_is_line fun cdv A outer s H E hgd hr => ⟨_, (dss_cons (ds_if (DW.t (dw_or (dt_not (dt_val (de_isi (.inl rfl) (de_var 1) (by rfl) V.n_isinstance (by rfl) V.n_tuple bt_tuple))) (dw_or (dt_cmp (op_neD (by exact hu64 hr)) rd_neD (de_callB call_lenD rd_lenD (by rfl) V.n_len bt_len (dl_cons (de_var 1) dl_nil)) de_int rfl) (dw_or1 (dt_not (dt_val (de_call (by exact px_of) (by exact hgd) (ok_is_vector (P := P) (w := w) (K := K) (mg := mg) (base := base) V D EX) (by exact hr.mono (by decide)) D.d_is_vector.kp (b_is_vector D) V.g_is_vector (by rfl) (da_cons (de_var 0) (da_cons (de_ix (de_var 1) de_int) da_nil))))))))) (dss_one (ds_ret de_bl)) dss_nil)
    (dss_cons (ds_if (DW.t (dw_or (dt_not (dt_val (de_isi (.inl rfl) (de_ix (de_var 1) de_int) (by rfl) V.n_isinstance (by rfl) V.n_tuple bt_tuple))) (dw_or1 (dt_cmp op_gt rd_cmpD (de_callB call_lenD rd_lenD (by rfl) V.n_len bt_len (dl_cons (de_ix (de_var 1) de_int) dl_nil)) (de_glob (by rfl) (Classical.choose_spec V.i_MOST_PERIODS)) rfl)))) (dss_one (ds_ret de_bl)) dss_nil)
    (dss_cons (ds_set 2 (by exact sc_is_line.nd) (de_op op_mulD rd_mulD (de_tup (dl_cons de_int dl_nil)) (de_var 0)))
    (dss_cons (ds_for (by exact passes_of rfl) (by rfl) (di_tup (de_ix (de_var 1) de_int)) (dg_name 3 (by exact sc_is_line.nd)) (dss_cons (ds_if (DW.t (dw_or (dt_not (dt_val (de_call (by exact px_of) (by exact hgd) (ok_is_vector (P := P) (w := w) (K := K) (mg := mg) (base := base) V D EX) (by exact hr.mono (by decide)) D.d_is_vector.kp (b_is_vector D) V.g_is_vector (by rfl) (da_cons (de_var 0) (da_cons (de_var 3) da_nil))))) (dw_or1 (dt_not (dt_cmp (op_ltTD (by exact hu64 hr)) rd_ltTD (de_var 2) (de_var 3) rfl))))) (dss_one (ds_ret de_bl)) dss_nil)
    (dss_one (ds_set 2 (by exact sc_is_line.nd) (de_var 3)))))
    (dss_one (ds_ret de_bl))))))⟩
theorem ok_need_set (V : MG K mg) (D : DF K) (EX : ExcK K) : FnD (kap K) P w K mg base 4 (He.ga K "need_set") (fdOf K (He.ga K "need_set")) ["value"] F_need_set := by
  refine fnD_of (k := 3) (N := N_need_set) (m := m_need_set) D.d_need_set sc_need_set fun cdv A outer s H E hgd hr => ⟨_, (dss_cons (ds_if (DW.t (dw_or (dt_not (dt_val (de_isi (.inl rfl) (de_var 0) (by rfl) V.n_isinstance (by rfl) V.n_tuple bt_tuple))) (dw_or1 (dt_cmp (op_neD (by exact hu64 hr)) rd_neD (de_callB call_lenD rd_lenD (by rfl) V.n_len bt_len (dl_cons (de_var 0) dl_nil)) de_int rfl)))) (dss_one (ds_raise .bs (by rfl) (by exact hx_of) (by rfl) EX.bs (ini_bs V D EX) (by exact hr.mono (by decide)) (bi_bs D) (by exact passL) (by rfl) V.g_BadSet de_int)) dss_nil)
    (dss_cons (ds_asg (de_var 0) (dg_tupK K (by rfl) (by rfl) (dgs_cons (dg_name 1 (by exact sc_need_set.nd)) (dgs_cons (dg_name 2 (by exact sc_need_set.nd)) dgs_nil))))
    (dss_cons (ds_if (DW.t (dw_or (dt_not (dt_val (de_call (by exact px_of) (by exact hgd) (ok_is_from (P := P) (w := w) (K := K) (mg := mg) (base := base) V D EX) (by exact hr.mono (by decide)) D.d_is_from.kp (b_is_from D) V.g_is_from (by rfl) (da_cons (de_var 1) (da_cons de_int (da_cons (de_glob (by rfl) (Classical.choose_spec V.i_WIDEST)) da_nil)))))) (dw_or1 (dt_not (dt_val (de_isi (.inl rfl) (de_var 2) (by rfl) V.n_isinstance (by rfl) V.n_tuple bt_tuple)))))) (dss_one (ds_raise .bs (by rfl) (by exact hx_of) (by rfl) EX.bs (ini_bs V D EX) (by exact hr.mono (by decide)) (bi_bs D) (by exact passL) (by rfl) V.g_BadSet de_int)) dss_nil)
    (dss_cons (ds_if (dt_cmp op_gt rd_cmpD (de_callB call_lenD rd_lenD (by rfl) V.n_len bt_len (dl_cons (de_var 2) dl_nil)) (de_glob (by rfl) (Classical.choose_spec V.i_MOST_LINES)) rfl) (dss_one (ds_raise .tg (by rfl) (by exact hx_of) (by rfl) EX.tg (ini_tg V D EX) (by exact hr.mono (by decide)) (bi_tg D) (by exact passL) (by rfl) V.g_TooGreat (de_glob (by rfl) (Classical.choose_spec V.i_MOST_LINES)))) dss_nil)
    (dss_cons (ds_set 3 (by exact sc_need_set.nd) de_non)
    (dss_cons (ds_for (by exact passes_of rfl) (by rfl) (di_enum (by rfl) V.n_enumerate (dl_cons (de_var 2) dl_nil)) (dg_tupK K (by rfl) (by rfl) (dgs_cons (dg_name 4 (by exact sc_need_set.nd)) (dgs_cons (dg_name 5 (by exact sc_need_set.nd)) dgs_nil))) (dss_cons (ds_if (DW.t (dw_or (dt_not (dt_val (de_call (by exact px_of) (by exact hgd) (ok_is_line (P := P) (w := w) (K := K) (mg := mg) (base := base) V D EX) (by exact hr.mono (by decide)) D.d_is_line.kp (b_is_line D) V.g_is_line (by rfl) (da_cons (de_var 1) (da_cons (de_var 5) da_nil))))) (dw_or1 (DW.t (dw_and (dt_cmp op_notN rd_notN (de_var 3) de_non rfl) (dw_and1 (dt_not (dt_cmp (op_ltTD (by exact hu64 hr)) rd_ltTD (de_var 3) (de_var 5) rfl)))))))) (dss_one (ds_raise .bs (by rfl) (by exact hx_of) (by rfl) EX.bs (ini_bs V D EX) (by exact hr.mono (by decide)) (bi_bs D) (by exact passL) (by rfl) V.g_BadSet (de_op op_addD rd_addD (de_var 4) de_int))) dss_nil)
    (dss_one (ds_set 3 (by exact sc_need_set.nd) (de_var 5)))))
    (dss_one (ds_ret (de_var 0)))))))))⟩
theorem ok_line_of (V : MG K mg) (D : DF K) (EX : ExcK K) : FnD (kap K) P w K mg base 3 (He.ga K "line_of") (fdOf K (He.ga K "line_of")) ["base", "rows"] F_line_of := by
  refine fnD_of (k := 2) (N := N_line_of) (m := m_line_of) D.d_line_of sc_line_of fun cdv A outer s H E hgd hr => ⟨_, (dss_cons (ds_setDc (own := [("row", 3)]) 2 (by exact hu8 hr) (by rfl) (by exact sc_line_of.nd) (di_tup (de_var 1)) (by exact blk_of (by kernel_rfl)) (fun _ _ _ _ _ => (dg_name 3 (by exact sc_line_of.nd))) (fun _ _ _ _ _ => (dts_one (dt_cmp op_gt rd_cmpD (de_callB (call_maxT (by rfl) (by exact hu64 hr)) rd_extD (by rfl) V.n_max bt_max (dl_cons (de_var 3) dl_nil)) de_int rfl))) (fun _ _ _ _ _ => (de_var 3)))
    (dss_cons (ds_if (dt_cmp op_gt rd_cmpD (de_callB call_lenD rd_lenD (by rfl) V.n_len bt_len (dl_cons (de_var 2) dl_nil)) (de_glob (by rfl) (Classical.choose_spec V.i_MOST_PERIODS)) rfl) (dss_one (ds_raise .tg (by rfl) (by exact hx_of) (by rfl) EX.tg (ini_tg V D EX) (by exact hr.mono (by decide)) (bi_tg D) (by exact passL) (by rfl) V.g_TooGreat (de_glob (by rfl) (Classical.choose_spec V.i_MOST_PERIODS)))) dss_nil)
    (dss_one (ds_ret (de_tup (dl_cons (de_var 0) (dl_cons (de_callTy call_tuple_of rd_tupleD (by rfl) V.n_tuple bt_tuple (dl_cons (de_callB (cr_sortD (by rfl) (by exact hu70 hr)) rd_sortD (by rfl) V.n_sorted bt_sorted (dl_cons (de_var 2) dl_nil)) dl_nil)) dl_nil)))))))⟩
theorem ok_set_with (V : MG K mg) (D : DF K) (EX : ExcK K) : FnD (kap K) P w K mg base 3 (He.ga K "set_with") (fdOf K (He.ga K "set_with")) ["many", "lines"] F_set_with := by
  refine fnD_of (k := 2) (N := N_set_with) (m := m_set_with) D.d_set_with sc_set_with fun cdv A outer s H E hgd hr => ⟨_, (dss_cons (ds_setDc (own := [("line", 3)]) 2 (by exact hu8 hr) (by rfl) (by exact sc_set_with.nd) (di_sq (de_var 1)) (by exact blk_of (by kernel_rfl)) (fun _ _ _ _ _ => (dg_name 3 (by exact sc_set_with.nd))) (fun _ _ _ _ _ => dts_nil) (fun _ _ _ _ _ => (de_var 3)))
    (dss_cons (ds_if (dt_cmp op_gt rd_cmpD (de_callB call_lenD rd_lenD (by rfl) V.n_len bt_len (dl_cons (de_var 2) dl_nil)) (de_glob (by rfl) (Classical.choose_spec V.i_MOST_LINES)) rfl) (dss_one (ds_raise .tg (by rfl) (by exact hx_of) (by rfl) EX.tg (ini_tg V D EX) (by exact hr.mono (by decide)) (bi_tg D) (by exact passL) (by rfl) V.g_TooGreat (de_glob (by rfl) (Classical.choose_spec V.i_MOST_LINES)))) dss_nil)
    (dss_one (ds_ret (de_tup (dl_cons (de_var 0) (dl_cons (de_callTy call_tuple_of rd_tupleD (by rfl) V.n_tuple bt_tuple (dl_cons (de_callB (cr_sortD (by rfl) (by exact hu70 hr)) rd_sortD (by rfl) V.n_sorted bt_sorted (dl_cons (de_var 2) dl_nil)) dl_nil)) dl_nil)))))))⟩
theorem ok_added (V : MG K mg) (D : DF K) (EX : ExcK K) : FnD (kap K) P w K mg base 1 (He.ga K "added") (fdOf K (He.ga K "added")) ["row", "step", "often"] F_added := by
  refine fnD_of (k := 0) (N := N_added) (m := m_added) D.d_added sc_added fun cdv A outer s H E hgd hr => ⟨_, (dss_one (ds_ret (de_callTy call_tuple_of rd_tupleD (by rfl) V.n_tuple bt_tuple (dl_cons (de_lc (own := [("number", 3), ("more", 4)]) (by rfl) (by exact sc_added.nd) (di_zip (by rfl) V.n_zip (dl_cons (de_var 0) (dl_cons (de_var 1) dl_nil))) (by exact blk_of (by kernel_rfl)) (fun _ _ _ _ _ => (dg_tupK K (by rfl) (by rfl) (dgs_cons (dg_name 3 (by exact sc_added.nd)) (dgs_cons (dg_name 4 (by exact sc_added.nd)) dgs_nil)))) (fun _ _ _ _ _ => dts_nil) (fun _ _ _ _ _ => (de_op (op_addDK K (by rfl)) (rd_addD (K := K)) (de_var 3) (de_op op_mulD rd_mulD (de_var 2) (de_var 4))))) dl_nil))))⟩
theorem ok_need_short (V : MG K mg) (D : DF K) (EX : ExcK K) : FnD (kap K) P w K mg base 3 (He.ga K "need_short") (fdOf K (He.ga K "need_short")) ["row"] F_need_short := by
  refine fnD_of (k := 2) (N := N_need_short) (m := m_need_short) D.d_need_short sc_need_short fun cdv A outer s H E hgd hr => ⟨_, (dss_cons (ds_if (dt_cmp op_gt rd_cmpD (de_callB (call_maxT (by rfl) (by exact hu64 hr)) rd_extD (by rfl) V.n_max bt_max (dl_cons (de_var 0) dl_nil)) (de_glob (by rfl) (Classical.choose_spec V.i_MOST_NUMBER)) rfl) (dss_one (ds_raise .tg (by rfl) (by exact hx_of) (by rfl) EX.tg (ini_tg V D EX) (by exact hr.mono (by decide)) (bi_tg D) (by exact passL) (by rfl) V.g_TooGreat (de_glob (by rfl) (Classical.choose_spec V.i_MOST_NUMBER)))) dss_nil)
    (dss_one (ds_ret (de_var 0))))⟩
theorem ok_need_two (V : MG K mg) (D : DF K) (EX : ExcK K) : FnD (kap K) P w K mg base 5 (He.ga K "need_two") (fdOf K (He.ga K "need_two")) ["one", "other"] F_need_two := by
  refine fnD_of (k := 4) (N := N_need_two) (m := m_need_two) D.d_need_two sc_need_two fun cdv A outer s H E hgd hr => ⟨_, (dss_cons (ds_set 2 (by exact sc_need_two.nd) (de_ix (de_call (by exact px_of) (by exact hgd) (ok_need_set (P := P) (w := w) (K := K) (mg := mg) (base := base) V D EX) (by exact hr.mono (by decide)) D.d_need_set.kp (b_need_set D) V.g_need_set (by rfl) (da_cons (de_var 0) da_nil)) de_int))
    (dss_cons (ds_if (dt_cmp (op_neD (by exact hu64 hr)) rd_neD (de_ix (de_call (by exact px_of) (by exact hgd) (ok_need_set (P := P) (w := w) (K := K) (mg := mg) (base := base) V D EX) (by exact hr.mono (by decide)) D.d_need_set.kp (b_need_set D) V.g_need_set (by rfl) (da_cons (de_var 1) da_nil)) de_int) (de_var 2) rfl) (dss_one (ds_raise .un (by rfl) (by exact hx_of) (by rfl) EX.un (ini_un V D EX) (by exact hr.mono (by decide)) (bi_un D) (by exact passL) (by rfl) V.g_Unlike (de_var 1))) dss_nil)
    (dss_one (ds_ret (de_var 2)))))⟩
theorem ok_union (V : MG K mg) (D : DF K) (EX : ExcK K) : FnD (kap K) P w K mg base 6 (He.ga K "union") (fdOf K (He.ga K "union")) ["one", "other"] F_union := by
  refine fnD_of (k := 5) (N := N_union) (m := m_union) D.d_union sc_union fun cdv A outer s H E hgd hr => ⟨_, (dss_one (ds_ret (de_call (by exact px_of) (by exact hgd) (ok_set_with (P := P) (w := w) (K := K) (mg := mg) (base := base) V D EX) (by exact hr.mono (by decide)) D.d_set_with.kp (b_set_with D) V.g_set_with (by rfl) (da_cons (de_call (by exact px_of) (by exact hgd) (ok_need_two (P := P) (w := w) (K := K) (mg := mg) (base := base) V D EX) (by exact hr.mono (by decide)) D.d_need_two.kp (b_need_two D) V.g_need_two (by rfl) (da_cons (de_var 0) (da_cons (de_var 1) da_nil))) (da_cons (de_op op_addD rd_addD (de_ix (de_var 0) de_int) (de_ix (de_var 1) de_int)) da_nil)))))⟩
theorem ok_sum_of (V : MG K mg) (D : DF K) (EX : ExcK K) : FnD (kap K) P w K mg base 6 (He.ga K "sum_of") (fdOf K (He.ga K "sum_of")) ["one", "other"] F_sum_of := by
  refine fnD_of (k := 5) (N := N_sum_of) (m := m_sum_of) D.d_sum_of sc_sum_of fun cdv A outer s H E hgd hr => ⟨_, (dss_cons (ds_set 2 (by exact sc_sum_of.nd) (de_call (by exact px_of) (by exact hgd) (ok_need_two (P := P) (w := w) (K := K) (mg := mg) (base := base) V D EX) (by exact hr.mono (by decide)) D.d_need_two.kp (b_need_two D) V.g_need_two (by rfl) (da_cons (de_var 0) (da_cons (de_var 1) da_nil))))
    (dss_cons (ds_if (dt_cmp op_gt rd_cmpD (de_op op_mulD rd_mulD (de_callB call_lenD rd_lenD (by rfl) V.n_len bt_len (dl_cons (de_ix (de_var 0) de_int) dl_nil)) (de_callB call_lenD rd_lenD (by rfl) V.n_len bt_len (dl_cons (de_ix (de_var 1) de_int) dl_nil))) (de_glob (by rfl) (Classical.choose_spec V.i_MOST_LINES)) rfl) (dss_one (ds_raise .tg (by rfl) (by exact hx_of) (by rfl) EX.tg (ini_tg V D EX) (by exact hr.mono (by decide)) (bi_tg D) (by exact passL) (by rfl) V.g_TooGreat (de_glob (by rfl) (Classical.choose_spec V.i_MOST_LINES)))) dss_nil)
    (dss_cons (ds_own 3 (by exact sc_sum_of.nd) dl_nil)
    (dss_cons (ds_for (by exact passes_of rfl) (by rfl) (di_tup (de_ix (de_var 0) de_int)) (dg_tupK K (by rfl) (by rfl) (dgs_cons (dg_name 4 (by exact sc_sum_of.nd)) (dgs_cons (dg_name 5 (by exact sc_sum_of.nd)) dgs_nil))) (dss_one (ds_for (by exact passes_of rfl) (by rfl) (di_tup (de_ix (de_var 1) de_int)) (dg_tupK K (by rfl) (by rfl) (dgs_cons (dg_name 6 (by exact sc_sum_of.nd)) (dgs_cons (dg_name 7 (by exact sc_sum_of.nd)) dgs_nil))) (dss_one (ds_app 3 (de_call (by exact px_of) (by exact hgd) (ok_line_of (P := P) (w := w) (K := K) (mg := mg) (base := base) V D EX) (by exact hr.mono (by decide)) D.d_line_of.kp (b_line_of D) V.g_line_of (by rfl) (da_cons (de_call (by exact px_of) (by exact hgd) (ok_need_short (P := P) (w := w) (K := K) (mg := mg) (base := base) V D EX) (by exact hr.mono (by decide)) D.d_need_short.kp (b_need_short D) V.g_need_short (by rfl) (da_cons (de_call (by exact px_of) (by exact hgd) (ok_added (P := P) (w := w) (K := K) (mg := mg) (base := base) V D EX) (by exact hr.mono (by decide)) D.d_added.kp (b_added D) V.g_added (by rfl) (da_cons (de_var 4) (da_cons (de_var 6) (da_cons de_int da_nil)))) da_nil)) (da_cons (de_op op_addD rd_addD (de_var 5) (de_var 7)) da_nil))))))))
    (dss_frz 3 (dss_one (ds_ret (de_call (by exact px_of) (by exact hgd) (ok_set_with (P := P) (w := w) (K := K) (mg := mg) (base := base) V D EX) (by exact hr.mono (by decide)) D.d_set_with.kp (b_set_with D) V.g_set_with (by rfl) (da_cons (de_var 2) (da_cons (de_var 3) da_nil))))))))))⟩
theorem ok_choices_from (V : MG K mg) (D : DF K) (EX : ExcK K) : ∀ n : Nat, FnD (kap K) P w K mg base (n + 1) (He.ga K "choices_from") (fdOf K (He.ga K "choices_from")) ["count", "first"] (F_choices_from n)
  | 0 => fnD_no
  | n + 1 => by
    have ih := ok_choices_from V D EX n
    refine fnD_of (k := n + 1) (N := N_choices_from) (m := m_choices_from (F_choices_from n)) D.d_choices_from sc_choices_from fun cdv A outer s H E hgd hr => ⟨_, (dss_cons (ds_own 2 (by exact sc_choices_from.nd) dl_nil)
    (dss_cons (ds_for (by exact passes_of rfl) (by rfl) (di_rng2 (by rfl) V.n_range (dl_cons (de_var 1) (dl_cons (de_var 0) dl_nil))) (dg_name 3 (by exact sc_choices_from.nd)) (dss_cons (ds_app 2 (de_tup (dl_cons (de_var 3) dl_nil)))
    (dss_one (ds_for (by exact passes_of rfl) (by rfl) (di_list (de_call (by exact px_of) (by exact hgd) ih (by exact hr) D.d_choices_from.kp (b_choices_from D) V.g_choices_from (by rfl) (da_cons (de_var 0) (da_cons (de_op op_addD rd_addD (de_var 3) de_int) da_nil)))) (dg_name 4 (by exact sc_choices_from.nd)) (dss_one (ds_app 2 (de_op op_addD rd_addD (de_tup (dl_cons (de_var 3) dl_nil)) (de_var 4))))))))
    (dss_frz 2 (dss_one (ds_ret (de_var 2))))))⟩
theorem ok_star (V : MG K mg) (D : DF K) (EX : ExcK K) : FnD (kap K) P w K mg base 12 (He.ga K "star") (fdOf K (He.ga K "star")) ["value"] F_star := by
  refine fnD_of (k := 11) (N := N_star) (m := m_star) D.d_star sc_star fun cdv A outer s H E hgd hr => ⟨_, (dss_cons (ds_asg (de_call (by exact px_of) (by exact hgd) (ok_need_set (P := P) (w := w) (K := K) (mg := mg) (base := base) V D EX) (by exact hr.mono (by decide)) D.d_need_set.kp (b_need_set D) V.g_need_set (by rfl) (da_cons (de_var 0) da_nil)) (dg_tupK K (by rfl) (by rfl) (dgs_cons (dg_name 1 (by exact sc_star.nd)) (dgs_cons (dg_name 2 (by exact sc_star.nd)) dgs_nil))))
    (dss_cons (ds_if (dt_cmp op_gt rd_cmpD (de_callB call_lenD rd_lenD (by rfl) V.n_len bt_len (dl_cons (de_var 2) dl_nil)) (de_glob (by rfl) (Classical.choose_spec V.i_MOST_STARRED)) rfl) (dss_one (ds_raise .tg (by rfl) (by exact hx_of) (by rfl) EX.tg (ini_tg V D EX) (by exact hr.mono (by decide)) (bi_tg D) (by exact passL) (by rfl) V.g_TooGreat (de_glob (by rfl) (Classical.choose_spec V.i_MOST_LINES)))) dss_nil)
    (dss_cons (ds_set 3 (by exact sc_star.nd) (de_op op_mulD rd_mulD (de_tup (dl_cons de_int dl_nil)) (de_var 1)))
    (dss_cons (ds_own 4 (by exact sc_star.nd) (dl_cons (de_tup (dl_cons (de_var 3) (dl_cons (de_tup dl_nil) dl_nil))) dl_nil))
    (dss_cons (ds_for (by exact passes_of rfl) (by rfl) (di_list (de_call (by exact px_of) (by exact hgd) (ok_choices_from (P := P) (w := w) (K := K) (mg := mg) (base := base) V D EX 10) (by exact hr.mono (by decide)) D.d_choices_from.kp (b_choices_from D) V.g_choices_from (by rfl) (da_cons (de_callB call_lenD rd_lenD (by rfl) V.n_len bt_len (dl_cons (de_var 2) dl_nil)) (da_cons de_int da_nil)))) (dg_name 5 (by exact sc_star.nd)) (dss_cons (ds_set 6 (by exact sc_star.nd) (de_var 3))
    (dss_cons (ds_set 7 (by exact sc_star.nd) (de_tup dl_nil))
    (dss_cons (ds_for (by exact passes_of rfl) (by rfl) (di_tup (de_var 5)) (dg_name 8 (by exact sc_star.nd)) (dss_cons (ds_set 6 (by exact sc_star.nd) (de_call (by exact px_of) (by exact hgd) (ok_added (P := P) (w := w) (K := K) (mg := mg) (base := base) V D EX) (by exact hr.mono (by decide)) D.d_added.kp (b_added D) V.g_added (by rfl) (da_cons (de_var 6) (da_cons (de_ix (de_ix (de_var 2) (de_var 8)) de_int) (da_cons de_int da_nil)))))
    (dss_one (ds_set 7 (by exact sc_star.nd) (de_op op_addD rd_addD (de_op op_addD rd_addD (de_var 7) (de_ix (de_ix (de_var 2) (de_var 8)) de_int)) (de_tup (dl_cons (de_ix (de_ix (de_var 2) (de_var 8)) de_int) dl_nil)))))))
    (dss_one (ds_app 4 (de_call (by exact px_of) (by exact hgd) (ok_line_of (P := P) (w := w) (K := K) (mg := mg) (base := base) V D EX) (by exact hr.mono (by decide)) D.d_line_of.kp (b_line_of D) V.g_line_of (by rfl) (da_cons (de_call (by exact px_of) (by exact hgd) (ok_need_short (P := P) (w := w) (K := K) (mg := mg) (base := base) V D EX) (by exact hr.mono (by decide)) D.d_need_short.kp (b_need_short D) V.g_need_short (by rfl) (da_cons (de_var 6) da_nil)) (da_cons (de_var 7) da_nil)))))))))
    (dss_frz 4 (dss_one (ds_ret (de_call (by exact px_of) (by exact hgd) (ok_set_with (P := P) (w := w) (K := K) (mg := mg) (base := base) V D EX) (by exact hr.mono (by decide)) D.d_set_with.kp (b_set_with D) V.g_set_with (by rfl) (da_cons (de_var 1) (da_cons (de_var 4) da_nil)))))))))))⟩
end
end Wh

namespace Wh
open PySem PySem.Spec PyProof.Rows L2

section
variable {P : Program} {w : World} {K : PySem.W.Frag} {mg : Str → Option Value} {base : Heap}

theorem ok_l_mixed (V : MG K mg) (D : DF K) (EX : ExcK K) : FnD (kap K) P w K mg base 1 (He.ga K "_law_mixed") (fdOf K (He.ga K "_law_mixed")) ["_law_cell", "_law_k"] F_l_mixed := by
  refine fnD_of (k := 0) (N := N_l_mixed) (m := m_l_mixed) D.d_l_mixed sc_l_mixed fun cdv A outer s H E hgd hr => ⟨_, (dss_cons (ds_set 0 (by exact sc_l_mixed.nd) (de_op op_mod rd_modD (de_callTy call_int1 rd_intC (by rfl) V.n_int bt_int (dl_cons (de_var 0) dl_nil)) de_int))
    (dss_one (ds_ret (de_op op_mod rd_modD (de_op op_mulD rd_mulD (de_op op_mod rd_modD (de_op op_addD rd_addD (de_op op_addD rd_addD (de_op op_mulD rd_mulD (de_var 0) (de_op op_addD rd_addD de_int (de_op op_mulD rd_mulD (de_op op_mulD rd_mulD de_int (de_var 1)) (de_var 1)))) (de_op op_mulD rd_mulD de_int (de_var 1))) de_int) de_int) de_int) de_int))))⟩
--SPECIAL _law_begin
theorem ok_l_draw (V : MG K mg) (D : DF K) (EX : ExcK K) : FnD (kap K) P w K mg base 2 (He.ga K "_law_draw") (fdOf K (He.ga K "_law_draw")) ["_law_state", "_law_limit"] F_l_draw := by
  refine fnD_of (k := 1) (N := N_l_draw) (m := m_l_draw) D.d_l_draw sc_l_draw fun cdv A outer s H E hgd hr => ⟨_, (dss_cons (ds_set 2 (by exact sc_l_draw.nd) (de_stAt 0 (by exact hu1 hr)))
    (dss_cons (ds_stPutAt 0 (by exact hu1 hr) (de_op op_addD rd_addD (de_var 2) de_int))
    (dss_cons (ds_set 3 (by exact sc_l_draw.nd) (de_op op_mod rd_modD (de_callTy call_int1 rd_intC (by rfl) V.n_int bt_int (dl_cons (de_var 2) dl_nil)) (de_stLen 0 (by exact hu1 hr) (by rfl) V.n_len)))
    (dss_cons (ds_set 4 (by exact sc_l_draw.nd) (de_stLeft 0 (by exact hu1 hr) (de_var 3)))
    (dss_cons (ds_if (dt_cmp op_gt rd_cmpD (de_var 4) de_int rfl) (dss_cons (ds_stPutLeft 0 (by exact hu1 hr) (de_op op_fdiv rd_divD (de_var 4) (de_var 1)) (de_var 3))
    (dss_one (ds_ret (de_op op_mod rd_modD (de_callTy call_int1 rd_intC (by rfl) V.n_int bt_int (dl_cons (de_var 4) dl_nil)) (de_var 1))))) dss_nil)
    (dss_cons (ds_set 5 (by exact sc_l_draw.nd) (de_call (by exact px_of) (by exact hgd) (ok_l_mixed (P := P) (w := w) (K := K) (mg := mg) (base := base) V D EX) (by exact hr.mono (by decide)) D.d_l_mixed.kp (b_l_mixed D) V.g_l_mixed (by rfl) (da_cons (de_call (by exact px_of) (by exact hgd) (ok_l_mixed (P := P) (w := w) (K := K) (mg := mg) (base := base) V D EX) (by exact hr.mono (by decide)) D.d_l_mixed.kp (b_l_mixed D) V.g_l_mixed (by rfl) (da_cons (de_stCell 0 (by exact hu1 hr) (de_var 3)) (da_cons (de_var 2) da_nil))) (da_cons (de_op op_addD rd_addD de_int (de_var 2)) da_nil))))
    (dss_one (ds_ret (de_op op_mod rd_modD (de_op op_fdiv rd_divD (de_callTy call_int1 rd_intC (by rfl) V.n_int bt_int (dl_cons (de_op op_addD rd_addD (de_op op_mulD rd_mulD (de_var 5) de_int) (de_call (by exact px_of) (by exact hgd) (ok_l_mixed (P := P) (w := w) (K := K) (mg := mg) (base := base) V D EX) (by exact hr.mono (by decide)) D.d_l_mixed.kp (b_l_mixed D) V.g_l_mixed (by rfl) (da_cons (de_var 5) (da_cons (de_op op_addD rd_addD de_int (de_var 2)) da_nil)))) dl_nil)) de_int) (de_var 1))))))))))⟩
theorem ok_l_row (V : MG K mg) (D : DF K) (EX : ExcK K) : FnD (kap K) P w K mg base 3 (He.ga K "_law_row") (fdOf K (He.ga K "_law_row")) ["_law_state", "_law_many_so", "_law_bound"] F_l_row := by
  refine fnD_of (k := 2) (N := N_l_row) (m := m_l_row) D.d_l_row sc_l_row fun cdv A outer s H E hgd hr => ⟨_, (dss_one (ds_ret (de_callTy call_tuple_of rd_tupleD (by rfl) V.n_tuple bt_tuple (dl_cons (de_lc (own := [("_law_place", 3)]) (by rfl) (by exact sc_l_row.nd) (di_rng1 (by rfl) V.n_range (dl_cons (de_var 1) dl_nil)) (by exact blk_of (by kernel_rfl)) (fun _ _ _ _ _ => (dg_name 3 (by exact sc_l_row.nd))) (fun _ _ _ _ _ => dts_nil) (fun _ _ _ _ _ => (de_call (E := EF) (by exact passL) (by exact hgd) (ok_l_draw (P := P) (w := w) (K := K) (mg := mg) (base := base) V D EX) (by exact hr.mono (by decide)) D.d_l_draw.kp (b_l_draw D) V.g_l_draw (by rfl) (da_st 0 (da_cons (de_var 2) da_nil))))) dl_nil))))⟩
theorem ok_l_grid (V : MG K mg) (D : DF K) (EX : ExcK K) : FnD (kap K) P w K mg base 1 (He.ga K "_law_grid") (fdOf K (He.ga K "_law_grid")) ["_law_many_so", "_law_bound"] F_l_grid := by
  refine fnD_of (k := 0) (N := N_l_grid) (m := m_l_grid) D.d_l_grid sc_l_grid fun cdv A outer s H E hgd hr => ⟨_, (dss_cons (ds_set 2 (by exact sc_l_grid.nd) (de_lst (dl_cons (de_tup dl_nil) dl_nil)))
    (dss_cons (ds_for (by exact passes_of rfl) (by rfl) (di_rng1 (by rfl) V.n_range (dl_cons (de_var 0) dl_nil)) (dg_name 3 (by exact sc_l_grid.nd)) (dss_cons (ds_set 4 (by exact sc_l_grid.nd) (de_lst dl_nil))
    (dss_cons (ds_for (by exact passes_of rfl) (by rfl) (di_list (de_var 2)) (dg_name 5 (by exact sc_l_grid.nd)) (dss_one (ds_set 4 (by exact sc_l_grid.nd) (de_op op_addD rd_addD (de_var 4) (de_lc (own := [("_law_number", 6)]) (by rfl) (by exact sc_l_grid.nd) (di_rng1 (by rfl) V.n_range (dl_cons (de_var 1) dl_nil)) (by exact blk_of (by kernel_rfl)) (fun _ _ _ _ _ => (dg_name 6 (by exact sc_l_grid.nd))) (fun _ _ _ _ _ => dts_nil) (fun _ _ _ _ _ => (de_op (op_addDK K (by rfl)) (rd_addD (K := K)) (de_var 5) (de_tup (dl_cons (de_var 6) dl_nil)))))))))
    (dss_one (ds_set 2 (by exact sc_l_grid.nd) (de_callTy call_list_of rd_listD (by rfl) V.n_list bt_list (dl_cons (de_var 4) dl_nil)))))))
    (dss_one (ds_ret (de_var 2)))))⟩
theorem ok_l_fills (V : MG K mg) (D : DF K) (EX : ExcK K) : ∀ n : Nat, FnD (kap K) P w K mg base (n + 1) (He.ga K "_law_fills") (fdOf K (He.ga K "_law_fills")) ["_law_left", "_law_periods_so"] (F_l_fills n)
  | 0 => fnD_no
  | n + 1 => by
    have ih := ok_l_fills V D EX n
    refine fnD_of (k := n + 1) (N := N_l_fills) (m := m_l_fills (F_l_fills n)) D.d_l_fills sc_l_fills fun cdv A outer s H E hgd hr => ⟨_, (dss_cons (ds_if (dt_cmp op_lt rd_cmpD (de_callB (call_minT (by rfl) (by exact hu64 hr)) rd_extD (by rfl) V.n_min bt_min (dl_cons (de_var 0) dl_nil)) de_int rfl) (dss_one (ds_ret de_bl)) dss_nil)
    (dss_cons (ds_if (DW.t (dw_or (dt_cmp (op_eqD (by exact hu64 hr)) rd_eqD (de_callB (call_maxT (by rfl) (by exact hu64 hr)) rd_extD (by rfl) V.n_max bt_max (dl_cons (de_var 0) dl_nil)) de_int rfl) (dw_or1 (dt_cmp (op_eqD (by exact hu64 hr)) rd_eqD (de_var 1) (de_tup dl_nil) rfl)))) (dss_one (ds_ret (de_cmp (op_eqD (by exact hu64 hr)) rd_eqD (de_callB (call_maxT (by rfl) (by exact hu64 hr)) rd_extD (by rfl) V.n_max bt_max (dl_cons (de_var 0) dl_nil)) de_int rfl))) dss_nil)
    (dss_cons (ds_set 2 (by exact sc_l_fills.nd) (de_var 0))
    (dss_cons (ds_for (by exact passes_of rfl) (by rfl) (di_rng1 (by rfl) V.n_range (dl_cons (de_op op_addD rd_addD (de_callB (call_maxT (by rfl) (by exact hu64 hr)) rd_extD (by rfl) V.n_max bt_max (dl_cons (de_var 0) dl_nil)) de_int) dl_nil)) (dg_name 3 (by exact sc_l_fills.nd)) (dss_cons (ds_if (DW.t (dw_and (dt_cmp op_ge rd_cmpD (de_callB (call_minT (by rfl) (by exact hu64 hr)) rd_extD (by rfl) V.n_min bt_min (dl_cons (de_var 2) dl_nil)) de_int rfl) (dw_and1 (dt_val (de_call (by exact px_of) (by exact hgd) ih (by exact hr) D.d_l_fills.kp (b_l_fills D) V.g_l_fills (by rfl) (da_cons (de_var 2) (da_cons (de_slice (some 1) none (de_var 1) po_c po_none pq_c pq_n) da_nil))))))) (dss_one (ds_ret de_bl)) dss_nil)
    (dss_one (ds_set 2 (by exact sc_l_fills.nd) (de_callTy call_tuple_of rd_tupleD (by rfl) V.n_tuple bt_tuple (dl_cons (de_lc (own := [("_law_number", 4), ("_law_less", 5)]) (by rfl) (by exact sc_l_fills.nd) (di_zip (by rfl) V.n_zip (dl_cons (de_var 2) (dl_cons (de_ix (de_var 1) de_int) dl_nil))) (by exact blk_of (by kernel_rfl)) (fun _ _ _ _ _ => (dg_tupK K (by rfl) (by rfl) (dgs_cons (dg_name 4 (by exact sc_l_fills.nd)) (dgs_cons (dg_name 5 (by exact sc_l_fills.nd)) dgs_nil)))) (fun _ _ _ _ _ => dts_nil) (fun _ _ _ _ _ => (de_op op_sub rd_subD (de_var 4) (de_var 5)))) dl_nil))))))
    (dss_one (ds_ret de_bl))))))⟩
theorem ok_l_has (V : MG K mg) (D : DF K) (EX : ExcK K) : FnD (kap K) P w K mg base 16 (He.ga K "_law_has") (fdOf K (He.ga K "_law_has")) ["_law_lines_so", "_law_row_here"] F_l_has := by
  refine fnD_of (k := 15) (N := N_l_has) (m := m_l_has) D.d_l_has sc_l_has fun cdv A outer s H E hgd hr => ⟨_, (dss_cons (ds_for (by exact passes_of rfl) (by rfl) (di_tup (de_var 0)) (dg_tupK K (by rfl) (by rfl) (dgs_cons (dg_name 2 (by exact sc_l_has.nd)) (dgs_cons (dg_name 3 (by exact sc_l_has.nd)) dgs_nil))) (dss_one (ds_if (dt_val (de_call (by exact px_of) (by exact hgd) (ok_l_fills (P := P) (w := w) (K := K) (mg := mg) (base := base) V D EX 14) (by exact hr.mono (by decide)) D.d_l_fills.kp (b_l_fills D) V.g_l_fills (by rfl) (da_cons (de_callTy call_tuple_of rd_tupleD (by rfl) V.n_tuple bt_tuple (dl_cons (de_lc (own := [("_law_number", 4), ("_law_less", 5)]) (by rfl) (by exact sc_l_has.nd) (di_zip (by rfl) V.n_zip (dl_cons (de_var 1) (dl_cons (de_var 2) dl_nil))) (by exact blk_of (by kernel_rfl)) (fun _ _ _ _ _ => (dg_tupK K (by rfl) (by rfl) (dgs_cons (dg_name 4 (by exact sc_l_has.nd)) (dgs_cons (dg_name 5 (by exact sc_l_has.nd)) dgs_nil)))) (fun _ _ _ _ _ => dts_nil) (fun _ _ _ _ _ => (de_op op_sub rd_subD (de_var 4) (de_var 5)))) dl_nil)) (da_cons (de_var 3) da_nil)))) (dss_one (ds_ret de_bl)) dss_nil)))
    (dss_one (ds_ret de_bl)))⟩
theorem ok_l_like (V : MG K mg) (D : DF K) (EX : ExcK K) : FnD (kap K) P w K mg base 1 (He.ga K "_law_like") (fdOf K (He.ga K "_law_like")) ["_law_got", "_law_due"] F_l_like := by
  refine fnD_of (k := 0) (N := N_l_like) (m := m_l_like) D.d_l_like sc_l_like fun cdv A outer s H E hgd hr => ⟨_, (dss_one (ds_ret (de_cmp (op_eqD (by exact hu64 hr)) rd_eqD (de_callB (call_reprD (by exact hgd) (by exact hu65 hr)) rd_reprD (by rfl) V.n_repr bt_repr (dl_cons (de_var 0) dl_nil)) (de_callB (call_reprD (by exact hgd) (by exact hu65 hr)) rd_reprD (by rfl) V.n_repr bt_repr (dl_cons (de_var 1) dl_nil)) rfl)))⟩
theorem ok_l_minus (V : MG K mg) (D : DF K) (EX : ExcK K) : FnD (kap K) P w K mg base 1 (He.ga K "_law_minus") (fdOf K (He.ga K "_law_minus")) ["_law_row_here", "_law_base"] F_l_minus := by
  refine fnD_of (k := 0) (N := N_l_minus) (m := m_l_minus) D.d_l_minus sc_l_minus fun cdv A outer s H E hgd hr => ⟨_, (dss_one (ds_ret (de_callTy call_tuple_of rd_tupleD (by rfl) V.n_tuple bt_tuple (dl_cons (de_lc (own := [("_law_number", 2), ("_law_less", 3)]) (by rfl) (by exact sc_l_minus.nd) (di_zip (by rfl) V.n_zip (dl_cons (de_var 0) (dl_cons (de_var 1) dl_nil))) (by exact blk_of (by kernel_rfl)) (fun _ _ _ _ _ => (dg_tupK K (by rfl) (by rfl) (dgs_cons (dg_name 2 (by exact sc_l_minus.nd)) (dgs_cons (dg_name 3 (by exact sc_l_minus.nd)) dgs_nil)))) (fun _ _ _ _ _ => dts_nil) (fun _ _ _ _ _ => (de_op op_sub rd_subD (de_var 2) (de_var 3)))) dl_nil))))⟩
theorem ok_l_lines (V : MG K mg) (D : DF K) (EX : ExcK K) : FnD (kap K) P w K mg base 4 (He.ga K "_law_lines") (fdOf K (He.ga K "_law_lines")) ["_law_state", "_law_many_so"] F_l_lines := by
  refine fnD_of (k := 3) (N := N_l_lines) (m := m_l_lines) D.d_l_lines sc_l_lines fun cdv A outer s H E hgd hr => ⟨_, (dss_cons (ds_parO 2 3 (by rfl) (by exact sc_l_lines.nd) dl_nil (de_call (by exact px_of) (by exact hgd) (ok_l_draw (P := P) (w := w) (K := K) (mg := mg) (base := base) V D EX) (by exact hr.mono (by decide)) D.d_l_draw.kp (b_l_draw D) V.g_l_draw (by rfl) (da_st 0 (da_cons de_int da_nil))))
    (dss_cons (ds_for (by exact passes_of rfl) (by rfl) (di_rng1 (by rfl) V.n_range (dl_cons (de_var 3) dl_nil)) (dg_name 4 (by exact sc_l_lines.nd)) (dss_cons (ds_own 5 (by exact sc_l_lines.nd) dl_nil)
    (dss_cons (ds_for (by exact passes_of rfl) (by rfl) (di_rng1 (by rfl) V.n_range (dl_cons (de_call (by exact px_of) (by exact hgd) (ok_l_draw (P := P) (w := w) (K := K) (mg := mg) (base := base) V D EX) (by exact hr.mono (by decide)) D.d_l_draw.kp (b_l_draw D) V.g_l_draw (by rfl) (da_st 0 (da_cons (de_if (dt_cmp op_lt rd_cmpD (de_var 3) de_int rfl) de_int de_int) da_nil))) dl_nil)) (dg_name 6 (by exact sc_l_lines.nd)) (dss_cons (ds_set 7 (by exact sc_l_lines.nd) (de_call (by exact px_of) (by exact hgd) (ok_l_row (P := P) (w := w) (K := K) (mg := mg) (base := base) V D EX) (by exact hr.mono (by decide)) D.d_l_row.kp (b_l_row D) V.g_l_row (by rfl) (da_st 0 (da_cons (de_var 1) (da_cons de_int da_nil)))))
    (dss_one (ds_if (DW.t (dw_and (dt_cmp op_gt rd_cmpD (de_callB (call_maxT (by rfl) (by exact hu64 hr)) rd_extD (by rfl) V.n_max bt_max (dl_cons (de_var 7) dl_nil)) de_int rfl) (dw_and1 (dt_niSl (by exact hu65 hr) 5 (de_var 7))))) (dss_one (ds_app 5 (de_var 7))) dss_nil))))
    (dss_frz 5 (dss_cons (ds_set 8 (by exact sc_l_lines.nd) (de_tup (dl_cons (de_call (by exact px_of) (by exact hgd) (ok_l_row (P := P) (w := w) (K := K) (mg := mg) (base := base) V D EX) (by exact hr.mono (by decide)) D.d_l_row.kp (b_l_row D) V.g_l_row (by rfl) (da_st 0 (da_cons (de_var 1) (da_cons de_int da_nil)))) (dl_cons (de_callTy call_tuple_of rd_tupleD (by rfl) V.n_tuple bt_tuple (dl_cons (de_callB (cr_sortD (by rfl) (by exact hu70 hr)) rd_sortD (by rfl) V.n_sorted bt_sorted (dl_cons (de_var 5) dl_nil)) dl_nil)) dl_nil))))
    (dss_one (ds_if (dt_niSl (by exact hu65 hr) 2 (de_var 8)) (dss_one (ds_app 2 (de_var 8))) dss_nil)))))))
    (dss_frz 2 (dss_one (ds_ret (de_tup (dl_cons (de_var 1) (dl_cons (de_callTy call_tuple_of rd_tupleD (by rfl) V.n_tuple bt_tuple (dl_cons (de_callB (cr_sortD (by rfl) (by exact hu70 hr)) rd_sortD (by rfl) V.n_sorted bt_sorted (dl_cons (de_var 2) dl_nil)) dl_nil)) dl_nil))))))))⟩
theorem ok_l_plus (V : MG K mg) (D : DF K) (EX : ExcK K) : FnD (kap K) P w K mg base 1 (He.ga K "_law_plus") (fdOf K (He.ga K "_law_plus")) ["_law_one", "_law_other"] F_l_plus := by
  refine fnD_of (k := 0) (N := N_l_plus) (m := m_l_plus) D.d_l_plus sc_l_plus fun cdv A outer s H E hgd hr => ⟨_, (dss_one (ds_ret (de_callTy call_tuple_of rd_tupleD (by rfl) V.n_tuple bt_tuple (dl_cons (de_lc (own := [("_law_number", 2), ("_law_more", 3)]) (by rfl) (by exact sc_l_plus.nd) (di_zip (by rfl) V.n_zip (dl_cons (de_var 0) (dl_cons (de_var 1) dl_nil))) (by exact blk_of (by kernel_rfl)) (fun _ _ _ _ _ => (dg_tupK K (by rfl) (by rfl) (dgs_cons (dg_name 2 (by exact sc_l_plus.nd)) (dgs_cons (dg_name 3 (by exact sc_l_plus.nd)) dgs_nil)))) (fun _ _ _ _ _ => dts_nil) (fun _ _ _ _ _ => (de_op (op_addDK K (by rfl)) (rd_addD (K := K)) (de_var 2) (de_var 3)))) dl_nil))))⟩
theorem ok_l_clean (V : MG K mg) (D : DF K) (EX : ExcK K) : FnD (kap K) P w K mg base 1 (He.ga K "_law_clean") (fdOf K (He.ga K "_law_clean")) ["_law_lines_so"] F_l_clean := by
  refine fnD_of (k := 0) (N := N_l_clean) (m := m_l_clean) D.d_l_clean sc_l_clean fun cdv A outer s H E hgd hr => ⟨_, (dss_cons (ds_own 1 (by exact sc_l_clean.nd) dl_nil)
    (dss_cons (ds_for (by exact passes_of rfl) (by rfl) (di_sq (de_var 0)) (dg_tupK K (by rfl) (by rfl) (dgs_cons (dg_name 2 (by exact sc_l_clean.nd)) (dgs_cons (dg_name 3 (by exact sc_l_clean.nd)) dgs_nil))) (dss_cons (ds_own 4 (by exact sc_l_clean.nd) dl_nil)
    (dss_cons (ds_for (by exact passes_of rfl) (by rfl) (di_tup (de_var 3)) (dg_name 5 (by exact sc_l_clean.nd)) (dss_one (ds_if (DW.t (dw_and (dt_cmp op_gt rd_cmpD (de_callB (call_maxT (by rfl) (by exact hu64 hr)) rd_extD (by rfl) V.n_max bt_max (dl_cons (de_var 5) dl_nil)) de_int rfl) (dw_and1 (dt_niSl (by exact hu65 hr) 4 (de_var 5))))) (dss_one (ds_app 4 (de_var 5))) dss_nil)))
    (dss_frz 4 (dss_cons (ds_set 6 (by exact sc_l_clean.nd) (de_tup (dl_cons (de_var 2) (dl_cons (de_callTy call_tuple_of rd_tupleD (by rfl) V.n_tuple bt_tuple (dl_cons (de_callB (cr_sortD (by rfl) (by exact hu70 hr)) rd_sortD (by rfl) V.n_sorted bt_sorted (dl_cons (de_var 4) dl_nil)) dl_nil)) dl_nil))))
    (dss_one (ds_if (dt_niSl (by exact hu65 hr) 1 (de_var 6)) (dss_one (ds_app 1 (de_var 6))) dss_nil)))))))
    (dss_frz 1 (dss_one (ds_ret (de_callTy call_tuple_of rd_tupleD (by rfl) V.n_tuple bt_tuple (dl_cons (de_callB (cr_sortD (by rfl) (by exact hu70 hr)) rd_sortD (by rfl) V.n_sorted bt_sorted (dl_cons (de_var 1) dl_nil)) dl_nil)))))))⟩
theorem ok_l_choices (V : MG K mg) (D : DF K) (EX : ExcK K) : FnD (kap K) P w K mg base 1 (He.ga K "_law_choices") (fdOf K (He.ga K "_law_choices")) ["_law_many_so"] F_l_choices := by
  refine fnD_of (k := 0) (N := N_l_choices) (m := m_l_choices) D.d_l_choices sc_l_choices fun cdv A outer s H E hgd hr => ⟨_, (dss_cons (ds_set 1 (by exact sc_l_choices.nd) (de_lst (dl_cons (de_lst dl_nil) dl_nil)))
    (dss_cons (ds_for (by exact passes_of rfl) (by rfl) (di_rng1 (by rfl) V.n_range (dl_cons (de_var 0) dl_nil)) (dg_name 2 (by exact sc_l_choices.nd)) (dss_one (ds_set 1 (by exact sc_l_choices.nd) (de_op op_addD rd_addD (de_var 1) (de_lc (own := [("_law_row_here", 3)]) (by rfl) (by exact sc_l_choices.nd) (di_list (de_var 1)) (by exact blk_of (by kernel_rfl)) (fun _ _ _ _ _ => (dg_name 3 (by exact sc_l_choices.nd))) (fun _ _ _ _ _ => dts_nil) (fun _ _ _ _ _ => (de_op (op_addDK K (by rfl)) (rd_addD (K := K)) (de_var 3) (de_lst (dl_cons (de_var 2) dl_nil)))))))))
    (dss_one (ds_ret (de_slice (some 1) none (de_var 1) po_c po_none pq_c pq_n)))))⟩
theorem ok_l_star_lines (V : MG K mg) (D : DF K) (EX : ExcK K) : FnD (kap K) P w K mg base 2 (He.ga K "_law_star_lines") (fdOf K (He.ga K "_law_star_lines")) ["_law_value"] F_l_star_lines := by
  refine fnD_of (k := 1) (N := N_l_star_lines) (m := m_l_star_lines) D.d_l_star_lines sc_l_star_lines fun cdv A outer s H E hgd hr => ⟨_, (dss_cons (ds_set 1 (by exact sc_l_star_lines.nd) (de_op op_mulD rd_mulD (de_tup (dl_cons de_int dl_nil)) (de_ix (de_var 0) de_int)))
    (dss_cons (ds_own 2 (by exact sc_l_star_lines.nd) (dl_cons (de_tup (dl_cons (de_var 1) (dl_cons (de_tup dl_nil) dl_nil))) dl_nil))
    (dss_cons (ds_for (by exact passes_of rfl) (by rfl) (di_list (de_call (by exact px_of) (by exact hgd) (ok_l_choices (P := P) (w := w) (K := K) (mg := mg) (base := base) V D EX) (by exact hr.mono (by decide)) D.d_l_choices.kp (b_l_choices D) V.g_l_choices (by rfl) (da_cons (de_callB call_lenD rd_lenD (by rfl) V.n_len bt_len (dl_cons (de_ix (de_var 0) de_int) dl_nil)) da_nil))) (dg_name 3 (by exact sc_l_star_lines.nd)) (dss_cons (ds_par 4 5 (by rfl) (by exact sc_l_star_lines.nd) (dl_cons (de_var 1) (dl_cons (de_tup dl_nil) dl_nil)))
    (dss_cons (ds_for (by exact passes_of rfl) (by rfl) (di_list (de_var 3)) (dg_name 6 (by exact sc_l_star_lines.nd)) (dss_cons (ds_set 7 (by exact sc_l_star_lines.nd) (de_ix (de_ix (de_var 0) de_int) (de_var 6)))
    (dss_one (ds_par 4 5 (by rfl) (by exact sc_l_star_lines.nd) (dl_cons (de_call (by exact px_of) (by exact hgd) (ok_l_plus (P := P) (w := w) (K := K) (mg := mg) (base := base) V D EX) (by exact hr.mono (by decide)) D.d_l_plus.kp (b_l_plus D) V.g_l_plus (by rfl) (da_cons (de_var 4) (da_cons (de_ix (de_var 7) de_int) da_nil))) (dl_cons (de_op op_addD rd_addD (de_op op_addD rd_addD (de_var 5) (de_tup (dl_cons (de_ix (de_var 7) de_int) dl_nil))) (de_ix (de_var 7) de_int)) dl_nil))))))
    (dss_one (ds_app 2 (de_tup (dl_cons (de_var 4) (dl_cons (de_var 5) dl_nil))))))))
    (dss_frz 2 (dss_one (ds_ret (de_call (by exact px_of) (by exact hgd) (ok_l_clean (P := P) (w := w) (K := K) (mg := mg) (base := base) V D EX) (by exact hr.mono (by decide)) D.d_l_clean.kp (b_l_clean D) V.g_l_clean (by rfl) (da_cons (de_var 2) da_nil))))))))⟩
theorem ok_l_sums (V : MG K mg) (D : DF K) (EX : ExcK K) : FnD (kap K) P w K mg base 2 (He.ga K "_law_sums") (fdOf K (He.ga K "_law_sums")) ["_law_one", "_law_other", "_law_grid_here"] F_l_sums := by
  refine fnD_of (k := 1) (N := N_l_sums) (m := m_l_sums) D.d_l_sums sc_l_sums fun cdv A outer s H E hgd hr => ⟨_, (dss_cons (ds_own 3 (by exact sc_l_sums.nd) dl_nil)
    (dss_cons (ds_for (by exact passes_of rfl) (by rfl) (di_list (de_var 2)) (dg_name 4 (by exact sc_l_sums.nd)) (dss_cons (ds_setLc (own := [("_law_part", 6)]) 5 (by rfl) (by exact sc_l_sums.nd) (di_list (de_var 0)) (by exact blk_of (by kernel_rfl)) (fun _ _ _ _ _ => (dg_name 6 (by exact sc_l_sums.nd))) (fun _ _ _ _ _ => (dts_one (dt_cmp op_ge rd_cmpD (de_callB (call_minT (by rfl) (by exact hu64 hr)) rd_extD (by rfl) V.n_min bt_min (dl_cons (de_call (E := EF) (by exact passL) (by exact hgd) (ok_l_minus (P := P) (w := w) (K := K) (mg := mg) (base := base) V D EX) (by exact hr.mono (by decide)) D.d_l_minus.kp (b_l_minus D) V.g_l_minus (by rfl) (da_cons (de_var 4) (da_cons (de_var 6) da_nil))) dl_nil)) de_int rfl))) (fun _ _ _ _ _ => (de_var 6)))
    (dss_one (ds_if (dt_cmp (op_neD (by exact hu64 hr)) rd_neD (de_lc (own := [("_law_part", 6)]) (by rfl) (by exact sc_l_sums.nd) (di_list (de_var 5)) (by exact blk_of (by kernel_rfl)) (fun _ _ _ _ _ => (dg_name 6 (by exact sc_l_sums.nd))) (fun _ _ _ _ _ => (dts_one (dt_inSlK (E := EF) K (by rfl) (by exact hu65 hr) 1 (de_call (E := EF) (by exact passL) (by exact hgd) (ok_l_minus (P := P) (w := w) (K := K) (mg := mg) (base := base) V D EX) (by exact hr.mono (by decide)) D.d_l_minus.kp (b_l_minus D) V.g_l_minus (by rfl) (da_cons (de_var 4) (da_cons (de_var 6) da_nil)))))) (fun _ _ _ _ _ => de_int)) (de_lst dl_nil) rfl) (dss_one (ds_app 3 (de_var 4))) dss_nil))))
    (dss_frz 3 (dss_one (ds_ret (de_var 3))))))⟩
theorem ok_l_star_rows (V : MG K mg) (D : DF K) (EX : ExcK K) : FnD (kap K) P w K mg base 2 (He.ga K "_law_star_rows") (fdOf K (He.ga K "_law_star_rows")) ["_law_one", "_law_grid_here"] F_l_star_rows := by
  refine fnD_of (k := 1) (N := N_l_star_rows) (m := m_l_star_rows) D.d_l_star_rows sc_l_star_rows fun cdv A outer s H E hgd hr => ⟨_, (dss_cons (ds_asgO 2 3 (by rfl) (by exact sc_l_star_rows.nd) (dl_cons (de_ix (de_var 1) de_int) dl_nil) (de_ix (de_var 1) de_int))
    (dss_cons (ds_for (by exact passes_of rfl) (by rfl) (di_list (de_slice (some 1) none (de_var 1) po_c po_none pq_c pq_n)) (dg_name 4 (by exact sc_l_star_rows.nd)) (dss_cons (ds_setLc (own := [("_law_part", 6)]) 5 (by rfl) (by exact sc_l_star_rows.nd) (di_list (de_var 0)) (by exact blk_of (by kernel_rfl)) (fun _ _ _ _ _ => (dg_name 6 (by exact sc_l_star_rows.nd))) (fun _ _ _ _ _ => (dts_one (DW.t (dw_and (dt_cmp (op_neDK K (by rfl) (by exact hu64 hr)) (rd_neD (K := K)) (de_var 6) (de_var 3) rfl) (dw_and1 (dt_cmp op_ge rd_cmpD (de_callB (call_minT (by rfl) (by exact hu64 hr)) rd_extD (by rfl) V.n_min bt_min (dl_cons (de_call (E := EF) (by exact passL) (by exact hgd) (ok_l_minus (P := P) (w := w) (K := K) (mg := mg) (base := base) V D EX) (by exact hr.mono (by decide)) D.d_l_minus.kp (b_l_minus D) V.g_l_minus (by rfl) (da_cons (de_var 4) (da_cons (de_var 6) da_nil))) dl_nil)) de_int rfl)))))) (fun _ _ _ _ _ => (de_var 6)))
    (dss_one (ds_if (dt_cmp (op_neD (by exact hu64 hr)) rd_neD (de_lc (own := [("_law_part", 6)]) (by rfl) (by exact sc_l_star_rows.nd) (di_list (de_var 5)) (by exact blk_of (by kernel_rfl)) (fun _ _ _ _ _ => (dg_name 6 (by exact sc_l_star_rows.nd))) (fun _ _ _ _ _ => (dts_one (dt_inSlK (E := EF) K (by rfl) (by exact hu65 hr) 2 (de_call (E := EF) (by exact passL) (by exact hgd) (ok_l_minus (P := P) (w := w) (K := K) (mg := mg) (base := base) V D EX) (by exact hr.mono (by decide)) D.d_l_minus.kp (b_l_minus D) V.g_l_minus (by rfl) (da_cons (de_var 4) (da_cons (de_var 6) da_nil)))))) (fun _ _ _ _ _ => de_int)) (de_lst dl_nil) rfl) (dss_one (ds_app 2 (de_var 4))) dss_nil))))
    (dss_frz 2 (dss_one (ds_ret (de_var 2))))))⟩
theorem ok_l_refusal (V : MG K mg) (D : DF K) (EX : ExcK K) : FnD (kap K) P w K mg base 13 (He.ga K "_law_refusal") (fdOf K (He.ga K "_law_refusal")) ["_law_word", "_law_one", "_law_other"] F_l_refusal := by
  refine fnD_of (k := 12) (N := N_l_refusal) (m := m_l_refusal) D.d_l_refusal sc_l_refusal fun cdv A outer s H E hgd hr => ⟨_, dss_cons (ds_set 3 (by exact sc_l_refusal.nd) de_non) (dss_cons (ds_try (C0 := .ref (He.ga K "SayError")) (x := "_law_found") (n := "error") (i := 3) (j := 4) (by decide) (by rfl) (by rfl) (by exact sc_l_refusal.nd) (by exact hx_of) (em_of EX)
    (db_if (fun pn xe E => dt_cmp (op_eqDK K (by rfl) (by exact hu64 hr)) (rd_eqD (K := K)) (de_var 0) de_str rfl) (db_call hgd (ok_union (P := P) (w := w) (K := K) (mg := mg) (base := base) V D EX) (hr.mono (by decide)) D.d_union.kp (b_union D) V.g_union rfl fun pn xe E => da_cons (de_var 1) (da_cons (de_var 2) da_nil))
      (db_if (fun pn xe E => dt_cmp (op_eqDK K (by rfl) (by exact hu64 hr)) (rd_eqD (K := K)) (de_var 0) de_str rfl) (db_call hgd (ok_sum_of (P := P) (w := w) (K := K) (mg := mg) (base := base) V D EX) (hr.mono (by decide)) D.d_sum_of.kp (b_sum_of D) V.g_sum_of rfl fun pn xe E => da_cons (de_var 1) (da_cons (de_var 2) da_nil))
        (db_call hgd (ok_star (P := P) (w := w) (K := K) (mg := mg) (base := base) V D EX) (hr.mono (by decide)) D.d_star.kp (b_star D) V.g_star rfl fun pn xe E => da_cons (de_var 1) da_nil)))
    (.consA (x := "BadSet") (n := "error") ⟨rfl, by decide, .inl V.g_BadSet⟩ rfl rfl (fun a oe cls d pn hz hf => ps_hd rfl rfl EX.bs.xf EX.bs.f sc_l_refusal.nd rfl rfl rfl rfl (by decide) (by decide) hz hf (by rfl) (by rfl) (by rfl) (by rfl)) <| .consA (x := "Unlike") (n := "error") ⟨rfl, by decide, .inl V.g_Unlike⟩ rfl rfl (fun a oe cls d pn hz hf => ps_hd rfl rfl EX.un.xf EX.un.f sc_l_refusal.nd rfl rfl rfl rfl (by decide) (by decide) hz hf (by rfl) (by rfl) (by rfl) (by rfl)) <| .consA (x := "TooGreat") (n := "error") ⟨rfl, by decide, .inl V.g_TooGreat⟩ rfl rfl (fun a oe cls d pn hz hf => ps_hd rfl rfl EX.tg.xf EX.tg.f sc_l_refusal.nd rfl rfl rfl rfl (by decide) (by decide) hz hf (by rfl) (by rfl) (by rfl) (by rfl)) <| .cons (x := "SayError") ⟨rfl, by decide, .inl V.g_SayError⟩ (fun a oe cls d pn hz hf => pss_one (ps_set sc_l_refusal.nd rfl (.inl rfl) (pe_lst (pa_cons pe_str pa_nil)) (by rfl) (.inr rfl))) .nil)) (dss_one (ds_ret (de_var 3))))⟩
theorem ok_l_refusals_right (V : MG K mg) (D : DF K) (EX : ExcK K) : FnD (kap K) P w K mg base 14 (He.ga K "_law_refusals_right") (fdOf K (He.ga K "_law_refusals_right")) ["_law_state", "_law_one"] F_l_refusals_right := by
  refine fnD_of (k := 13) (N := N_l_refusals_right) (m := m_l_refusals_right) D.d_l_refusals_right sc_l_refusals_right fun cdv A outer s H E hgd hr => ⟨_, (dss_cons (ds_set 2 (by exact sc_l_refusals_right.nd) (de_ix (de_var 1) de_int))
    (dss_cons (ds_par 3 4 (by rfl) (by exact sc_l_refusals_right.nd) (dl_cons (de_tup (dl_cons (de_op op_addD rd_addD (de_var 2) de_int) (dl_cons (de_tup dl_nil) dl_nil))) (dl_cons (de_tup (dl_cons (de_var 2) (dl_cons (de_tup (dl_cons (de_tup (dl_cons (de_op op_mulD rd_mulD (de_tup (dl_cons de_int dl_nil)) (de_op op_addD rd_addD (de_var 2) de_int)) (dl_cons (de_tup dl_nil) dl_nil))) dl_nil)) dl_nil))) dl_nil)))
    (dss_cons (ds_for (by exact passes_of rfl) (by rfl) (di_list (de_lst (dl_cons de_str (dl_cons de_str dl_nil)))) (dg_name 5 (by exact sc_l_refusals_right.nd)) (dss_cons (ds_if (dt_not (dt_val (de_call (by exact px_of) (by exact hgd) (ok_l_like (P := P) (w := w) (K := K) (mg := mg) (base := base) V D EX) (by exact hr.mono (by decide)) D.d_l_like.kp (b_l_like D) V.g_l_like (by rfl) (da_cons (de_call (by exact px_of) (by exact hgd) (ok_l_refusal (P := P) (w := w) (K := K) (mg := mg) (base := base) V D EX) (by exact hr.mono (by decide)) D.d_l_refusal.kp (b_l_refusal D) V.g_l_refusal (by rfl) (da_cons (de_var 5) (da_cons (de_var 1) (da_cons (de_var 3) da_nil)))) (da_cons (de_lst (dl_cons de_str (dl_cons (de_var 3) dl_nil))) da_nil))))) (dss_one (ds_ret de_bl)) dss_nil)
    (dss_cons (ds_if (dt_not (dt_val (de_call (by exact px_of) (by exact hgd) (ok_l_like (P := P) (w := w) (K := K) (mg := mg) (base := base) V D EX) (by exact hr.mono (by decide)) D.d_l_like.kp (b_l_like D) V.g_l_like (by rfl) (da_cons (de_call (by exact px_of) (by exact hgd) (ok_l_refusal (P := P) (w := w) (K := K) (mg := mg) (base := base) V D EX) (by exact hr.mono (by decide)) D.d_l_refusal.kp (b_l_refusal D) V.g_l_refusal (by rfl) (da_cons (de_var 5) (da_cons (de_var 3) (da_cons (de_var 1) da_nil)))) (da_cons (de_lst (dl_cons de_str (dl_cons (de_var 1) dl_nil))) da_nil))))) (dss_one (ds_ret de_bl)) dss_nil)
    (dss_cons (ds_if (dt_not (dt_val (de_call (by exact px_of) (by exact hgd) (ok_l_like (P := P) (w := w) (K := K) (mg := mg) (base := base) V D EX) (by exact hr.mono (by decide)) D.d_l_like.kp (b_l_like D) V.g_l_like (by rfl) (da_cons (de_call (by exact px_of) (by exact hgd) (ok_l_refusal (P := P) (w := w) (K := K) (mg := mg) (base := base) V D EX) (by exact hr.mono (by decide)) D.d_l_refusal.kp (b_l_refusal D) V.g_l_refusal (by rfl) (da_cons (de_var 5) (da_cons (de_var 4) (da_cons (de_var 3) da_nil)))) (da_cons (de_lst (dl_cons de_str (dl_cons de_int dl_nil))) da_nil))))) (dss_one (ds_ret de_bl)) dss_nil)
    (dss_one (ds_if (dt_not (dt_val (de_call (by exact px_of) (by exact hgd) (ok_l_like (P := P) (w := w) (K := K) (mg := mg) (base := base) V D EX) (by exact hr.mono (by decide)) D.d_l_like.kp (b_l_like D) V.g_l_like (by rfl) (da_cons (de_call (by exact px_of) (by exact hgd) (ok_l_refusal (P := P) (w := w) (K := K) (mg := mg) (base := base) V D EX) (by exact hr.mono (by decide)) D.d_l_refusal.kp (b_l_refusal D) V.g_l_refusal (by rfl) (da_cons (de_var 5) (da_cons (de_var 1) (da_cons de_non da_nil)))) (da_cons (de_lst (dl_cons de_str (dl_cons de_int dl_nil))) da_nil))))) (dss_one (ds_ret de_bl)) dss_nil))))))
    (dss_cons (ds_if (dt_not (dt_val (de_call (by exact px_of) (by exact hgd) (ok_l_like (P := P) (w := w) (K := K) (mg := mg) (base := base) V D EX) (by exact hr.mono (by decide)) D.d_l_like.kp (b_l_like D) V.g_l_like (by rfl) (da_cons (de_call (by exact px_of) (by exact hgd) (ok_l_refusal (P := P) (w := w) (K := K) (mg := mg) (base := base) V D EX) (by exact hr.mono (by decide)) D.d_l_refusal.kp (b_l_refusal D) V.g_l_refusal (by rfl) (da_cons de_str (da_cons (de_var 4) (da_cons de_non da_nil)))) (da_cons (de_lst (dl_cons de_str (dl_cons de_int dl_nil))) da_nil))))) (dss_one (ds_ret de_bl)) dss_nil)
    (dss_cons (ds_set 6 (by exact sc_l_refusals_right.nd) (de_callTy call_tuple_of rd_tupleD (by rfl) V.n_tuple bt_tuple (dl_cons (de_lc (own := [("_law_k", 7)]) (by rfl) (by exact sc_l_refusals_right.nd) (di_rng1 (by rfl) V.n_range (dl_cons de_int dl_nil)) (by exact blk_of (by kernel_rfl)) (fun _ _ _ _ _ => (dg_name 7 (by exact sc_l_refusals_right.nd))) (fun _ _ _ _ _ => dts_nil) (fun _ _ _ _ _ => (de_tup (dl_cons (de_tup (dl_cons (de_op (op_addDK K (by rfl)) (rd_addD (K := K)) (de_var 7) de_int) dl_nil)) (dl_cons (de_tup dl_nil) dl_nil))))) dl_nil)))
    (dss_cons (ds_if (dt_not (dt_val (de_call (by exact px_of) (by exact hgd) (ok_l_like (P := P) (w := w) (K := K) (mg := mg) (base := base) V D EX) (by exact hr.mono (by decide)) D.d_l_like.kp (b_l_like D) V.g_l_like (by rfl) (da_cons (de_call (by exact px_of) (by exact hgd) (ok_l_refusal (P := P) (w := w) (K := K) (mg := mg) (base := base) V D EX) (by exact hr.mono (by decide)) D.d_l_refusal.kp (b_l_refusal D) V.g_l_refusal (by rfl) (da_cons de_str (da_cons (de_tup (dl_cons de_int (dl_cons (de_var 6) dl_nil))) (da_cons (de_tup (dl_cons de_int (dl_cons (de_slice none (some 20) (de_var 6) po_none po_c pq_n pq_c) dl_nil))) da_nil)))) (da_cons (de_lst (dl_cons de_str (dl_cons de_int dl_nil))) da_nil))))) (dss_one (ds_ret de_bl)) dss_nil)
    (dss_cons (ds_if (dt_cmp op_notN rd_notN (de_call (by exact px_of) (by exact hgd) (ok_l_refusal (P := P) (w := w) (K := K) (mg := mg) (base := base) V D EX) (by exact hr.mono (by decide)) D.d_l_refusal.kp (b_l_refusal D) V.g_l_refusal (by rfl) (da_cons de_str (da_cons (de_tup (dl_cons de_int (dl_cons (de_slice none (some 20) (de_var 6) po_none po_c pq_n pq_c) dl_nil))) (da_cons (de_tup (dl_cons de_int (dl_cons (de_slice none (some 20) (de_var 6) po_none po_c pq_n pq_c) dl_nil))) da_nil)))) de_non rfl) (dss_one (ds_ret de_bl)) dss_nil)
    (dss_cons (ds_if (dt_not (dt_val (de_call (by exact px_of) (by exact hgd) (ok_l_like (P := P) (w := w) (K := K) (mg := mg) (base := base) V D EX) (by exact hr.mono (by decide)) D.d_l_like.kp (b_l_like D) V.g_l_like (by rfl) (da_cons (de_call (by exact px_of) (by exact hgd) (ok_l_refusal (P := P) (w := w) (K := K) (mg := mg) (base := base) V D EX) (by exact hr.mono (by decide)) D.d_l_refusal.kp (b_l_refusal D) V.g_l_refusal (by rfl) (da_cons de_str (da_cons (de_tup (dl_cons de_int (dl_cons (de_slice none (some 9) (de_var 6) po_none po_c pq_n pq_c) dl_nil))) (da_cons de_non da_nil)))) (da_cons (de_lst (dl_cons de_str (dl_cons de_int dl_nil))) da_nil))))) (dss_one (ds_ret de_bl)) dss_nil)
    (dss_cons (ds_par 8 9 (by rfl) (by exact sc_l_refusals_right.nd) (dl_cons (de_tup (dl_cons de_int (dl_cons (de_tup (dl_cons (de_tup (dl_cons (de_tup (dl_cons (de_op op_pow rd_powD de_int de_int) dl_nil)) (dl_cons (de_tup dl_nil) dl_nil))) dl_nil)) dl_nil))) (dl_cons (de_callTy call_tuple_of rd_tupleD (by rfl) V.n_tuple bt_tuple (dl_cons (de_lc (own := [("_law_k", 7)]) (by rfl) (by exact sc_l_refusals_right.nd) (di_rng1 (by rfl) V.n_range (dl_cons de_int dl_nil)) (by exact blk_of (by kernel_rfl)) (fun _ _ _ _ _ => (dg_name 7 (by exact sc_l_refusals_right.nd))) (fun _ _ _ _ _ => dts_nil) (fun _ _ _ _ _ => (de_tup (dl_cons de_int (dl_cons (de_var 7) dl_nil))))) dl_nil)) dl_nil)))
    (dss_cons (ds_if (dt_not (dt_val (de_call (by exact px_of) (by exact hgd) (ok_l_like (P := P) (w := w) (K := K) (mg := mg) (base := base) V D EX) (by exact hr.mono (by decide)) D.d_l_like.kp (b_l_like D) V.g_l_like (by rfl) (da_cons (de_call (by exact px_of) (by exact hgd) (ok_l_refusal (P := P) (w := w) (K := K) (mg := mg) (base := base) V D EX) (by exact hr.mono (by decide)) D.d_l_refusal.kp (b_l_refusal D) V.g_l_refusal (by rfl) (da_cons de_str (da_cons (de_var 8) (da_cons (de_tup (dl_cons de_int (dl_cons (de_slice none (some 1) (de_var 6) po_none po_c pq_n pq_c) dl_nil))) da_nil)))) (da_cons (de_lst (dl_cons de_str (dl_cons (de_op op_pow rd_powD de_int de_int) dl_nil))) da_nil))))) (dss_one (ds_ret de_bl)) dss_nil)
    (dss_cons (ds_set 10 (by exact sc_l_refusals_right.nd) (de_callTy call_tuple_of rd_tupleD (by rfl) V.n_tuple bt_tuple (dl_cons (de_lc (own := [("_law_k", 7)]) (by rfl) (by exact sc_l_refusals_right.nd) (di_rng1 (by rfl) V.n_range (dl_cons (de_op op_addD rd_addD de_int (de_call (by exact px_of) (by exact hgd) (ok_l_draw (P := P) (w := w) (K := K) (mg := mg) (base := base) V D EX) (by exact hr.mono (by decide)) D.d_l_draw.kp (b_l_draw D) V.g_l_draw (by rfl) (da_st 0 (da_cons de_int da_nil)))) dl_nil)) (by exact blk_of (by kernel_rfl)) (fun _ _ _ _ _ => (dg_name 7 (by exact sc_l_refusals_right.nd))) (fun _ _ _ _ _ => dts_nil) (fun _ _ _ _ _ => (de_tup (dl_cons de_int (dl_cons (de_var 7) dl_nil))))) dl_nil)))
    (dss_cons (ds_set 11 (by exact sc_l_refusals_right.nd) (de_if (dt_cmp op_le rd_cmpD (de_op op_addD rd_addD (de_callB call_lenD rd_lenD (by rfl) V.n_len bt_len (dl_cons (de_var 10) dl_nil)) de_int) de_int rfl) de_non (de_lst (dl_cons de_str (dl_cons de_int dl_nil)))))
    (dss_cons (ds_set 12 (by exact sc_l_refusals_right.nd) (de_call (by exact px_of) (by exact hgd) (ok_l_refusal (P := P) (w := w) (K := K) (mg := mg) (base := base) V D EX) (by exact hr.mono (by decide)) D.d_l_refusal.kp (b_l_refusal D) V.g_l_refusal (by rfl) (da_cons de_str (da_cons (de_tup (dl_cons de_int (dl_cons (de_tup (dl_cons (de_tup (dl_cons (de_tup (dl_cons de_int (dl_cons de_int dl_nil))) (dl_cons (de_slice none (some 6) (de_var 9) po_none po_c pq_n pq_c) dl_nil))) dl_nil)) dl_nil))) (da_cons (de_tup (dl_cons de_int (dl_cons (de_tup (dl_cons (de_tup (dl_cons (de_tup (dl_cons de_int (dl_cons de_int dl_nil))) (dl_cons (de_var 10) dl_nil))) dl_nil)) dl_nil))) da_nil)))))
    (dss_one (ds_ret (de_call (by exact px_of) (by exact hgd) (ok_l_like (P := P) (w := w) (K := K) (mg := mg) (base := base) V D EX) (by exact hr.mono (by decide)) D.d_l_like.kp (b_l_like D) V.g_l_like (by rfl) (da_cons (de_var 12) (da_cons (de_var 11) da_nil))))))))))))))))))⟩
theorem ok_l_unions_right (V : MG K mg) (D : DF K) (EX : ExcK K) : FnD (kap K) P w K mg base 14 (He.ga K "_law_unions_right") (fdOf K (He.ga K "_law_unions_right")) [] F_l_unions_right := by
  refine fnD_of (k := 13) (N := N_l_unions_right) (m := m_l_unions_right) D.d_l_unions_right sc_l_unions_right fun cdv A outer s H E hgd hr => ⟨_, (dss_cons (ds_set 0 (by exact sc_l_unions_right.nd) (de_callTy call_tuple_of rd_tupleD (by rfl) V.n_tuple bt_tuple (dl_cons (de_lc (own := [("_law_k", 1)]) (by rfl) (by exact sc_l_unions_right.nd) (di_rng1 (by rfl) V.n_range (dl_cons de_int dl_nil)) (by exact blk_of (by kernel_rfl)) (fun _ _ _ _ _ => (dg_name 1 (by exact sc_l_unions_right.nd))) (fun _ _ _ _ _ => dts_nil) (fun _ _ _ _ _ => (de_tup (dl_cons (de_tup (dl_cons (de_var 1) dl_nil)) (dl_cons (de_tup dl_nil) dl_nil))))) dl_nil)))
    (dss_cons (ds_set 2 (by exact sc_l_unions_right.nd) (de_call (by exact px_of) (by exact hgd) (ok_l_refusal (P := P) (w := w) (K := K) (mg := mg) (base := base) V D EX) (by exact hr.mono (by decide)) D.d_l_refusal.kp (b_l_refusal D) V.g_l_refusal (by rfl) (da_cons de_str (da_cons (de_tup (dl_cons de_int (dl_cons (de_slice none (some 201) (de_var 0) po_none po_c pq_n pq_c) dl_nil))) (da_cons (de_tup (dl_cons de_int (dl_cons (de_slice (some 201) none (de_var 0) po_c po_none pq_c pq_n) dl_nil))) da_nil)))))
    (dss_cons (ds_if (dt_not (dt_val (de_call (by exact px_of) (by exact hgd) (ok_l_like (P := P) (w := w) (K := K) (mg := mg) (base := base) V D EX) (by exact hr.mono (by decide)) D.d_l_like.kp (b_l_like D) V.g_l_like (by rfl) (da_cons (de_var 2) (da_cons (de_lst (dl_cons de_str (dl_cons de_int dl_nil))) da_nil))))) (dss_one (ds_ret de_bl)) dss_nil)
    (dss_cons (ds_if (dt_not (dt_val (de_call (by exact px_of) (by exact hgd) (ok_l_like (P := P) (w := w) (K := K) (mg := mg) (base := base) V D EX) (by exact hr.mono (by decide)) D.d_l_like.kp (b_l_like D) V.g_l_like (by rfl) (da_cons (de_call (by exact px_of) (by exact hgd) (ok_union (P := P) (w := w) (K := K) (mg := mg) (base := base) V D EX) (by exact hr.mono (by decide)) D.d_union.kp (b_union D) V.g_union (by rfl) (da_cons (de_tup (dl_cons de_int (dl_cons (de_slice none (some 200) (de_var 0) po_none po_c pq_n pq_c) dl_nil))) (da_cons (de_tup (dl_cons de_int (dl_cons (de_slice (some 200) (some 400) (de_var 0) po_c po_c pq_c pq_c) dl_nil))) da_nil))) (da_cons (de_tup (dl_cons de_int (dl_cons (de_slice none (some 400) (de_var 0) po_none po_c pq_n pq_c) dl_nil))) da_nil))))) (dss_one (ds_ret de_bl)) dss_nil)
    (dss_one (ds_ret (de_call (by exact px_of) (by exact hgd) (ok_l_like (P := P) (w := w) (K := K) (mg := mg) (base := base) V D EX) (by exact hr.mono (by decide)) D.d_l_like.kp (b_l_like D) V.g_l_like (by rfl) (da_cons (de_call (by exact px_of) (by exact hgd) (ok_union (P := P) (w := w) (K := K) (mg := mg) (base := base) V D EX) (by exact hr.mono (by decide)) D.d_union.kp (b_union D) V.g_union (by rfl) (da_cons (de_tup (dl_cons de_int (dl_cons (de_slice none (some 201) (de_var 0) po_none po_c pq_n pq_c) dl_nil))) (da_cons (de_tup (dl_cons de_int (dl_cons (de_slice none (some 201) (de_var 0) po_none po_c pq_n pq_c) dl_nil))) da_nil))) (da_cons (de_tup (dl_cons de_int (dl_cons (de_slice none (some 201) (de_var 0) po_none po_c pq_n pq_c) dl_nil))) da_nil)))))))))⟩
theorem ok_l_great_right (V : MG K mg) (D : DF K) (EX : ExcK K) : FnD (kap K) P w K mg base 14 (He.ga K "_law_great_right") (fdOf K (He.ga K "_law_great_right")) [] F_l_great_right := by
  refine fnD_of (k := 13) (N := N_l_great_right) (m := m_l_great_right) D.d_l_great_right sc_l_great_right fun cdv A outer s H E hgd hr => ⟨_, (dss_cons (ds_set 0 (by exact sc_l_great_right.nd) (de_callTy call_tuple_of rd_tupleD (by rfl) V.n_tuple bt_tuple (dl_cons (de_lc (own := [("_law_k", 1)]) (by rfl) (by exact sc_l_great_right.nd) (di_rng2 (by rfl) V.n_range (dl_cons de_int (dl_cons de_int dl_nil))) (by exact blk_of (by kernel_rfl)) (fun _ _ _ _ _ => (dg_name 1 (by exact sc_l_great_right.nd))) (fun _ _ _ _ _ => dts_nil) (fun _ _ _ _ _ => (de_tup (dl_cons (de_var 1) (dl_cons (de_op op_sub rd_subD de_int (de_var 1)) dl_nil))))) dl_nil)))
    (dss_cons (ds_par 2 3 (by rfl) (by exact sc_l_great_right.nd) (dl_cons (de_op op_pow rd_powD de_int de_int) (dl_cons (de_callTy call_tuple_of rd_tupleD (by rfl) V.n_tuple bt_tuple (dl_cons (de_lc (own := [("_law_k", 1)]) (by rfl) (by exact sc_l_great_right.nd) (di_rng1 (by rfl) V.n_range (dl_cons de_int dl_nil)) (by exact blk_of (by kernel_rfl)) (fun _ _ _ _ _ => (dg_name 1 (by exact sc_l_great_right.nd))) (fun _ _ _ _ _ => dts_nil) (fun _ _ _ _ _ => (de_tup (dl_cons (de_var 1) (dl_cons de_int dl_nil))))) dl_nil)) dl_nil)))
    (dss_cons (ds_own 4 (by exact sc_l_great_right.nd) (dl_cons (de_tup (dl_cons de_str (dl_cons (de_tup (dl_cons (de_tup (dl_cons (de_tup (dl_cons de_int (dl_cons de_int dl_nil))) (dl_cons (de_var 0) dl_nil))) dl_nil)) (dl_cons de_int dl_nil)))) (dl_cons (de_tup (dl_cons de_str (dl_cons (de_tup (dl_cons (de_tup (dl_cons (de_tup (dl_cons de_int (dl_cons de_int dl_nil))) (dl_cons (de_var 0) dl_nil))) (dl_cons (de_tup (dl_cons (de_tup (dl_cons (de_var 2) (dl_cons (de_var 2) dl_nil))) (dl_cons (de_tup dl_nil) dl_nil))) dl_nil))) (dl_cons de_int dl_nil)))) dl_nil)))
    (dss_cons (ds_app 4 (de_tup (dl_cons de_str (dl_cons (de_tup (dl_cons (de_tup (dl_cons (de_tup (dl_cons de_int (dl_cons (de_op op_mulD rd_mulD de_int (de_op op_pow rd_powD de_int de_int)) dl_nil))) (dl_cons (de_tup dl_nil) dl_nil))) (dl_cons (de_tup (dl_cons (de_tup (dl_cons de_int (dl_cons (de_op op_mulD rd_mulD de_int (de_op op_pow rd_powD de_int de_int)) dl_nil))) (dl_cons (de_var 0) dl_nil))) dl_nil))) (dl_cons (de_var 2) dl_nil)))))
    (dss_cons (ds_app 4 (de_tup (dl_cons de_str (dl_cons (de_tup (dl_cons (de_tup (dl_cons (de_tup (dl_cons de_int (dl_cons de_int dl_nil))) (dl_cons (de_slice none (some 7) (de_var 0) po_none po_c pq_n pq_c) dl_nil))) (dl_cons (de_tup (dl_cons (de_tup (dl_cons (de_var 2) (dl_cons de_int dl_nil))) (dl_cons (de_tup dl_nil) dl_nil))) dl_nil))) (dl_cons de_int dl_nil)))))
    (dss_cons (ds_app 4 (de_tup (dl_cons de_str (dl_cons (de_tup (dl_cons (de_tup (dl_cons (de_tup (dl_cons (de_var 2) (dl_cons de_int dl_nil))) (dl_cons (de_slice none (some 7) (de_var 0) po_none po_c pq_n pq_c) dl_nil))) dl_nil)) (dl_cons (de_var 2) dl_nil)))))
    (dss_frz 4 (dss_cons (ds_for (by exact passes_of rfl) (by rfl) (di_list (de_var 4)) (dg_tupK K (by rfl) (by rfl) (dgs_cons (dg_name 5 (by exact sc_l_great_right.nd)) (dgs_cons (dg_name 6 (by exact sc_l_great_right.nd)) (dgs_cons (dg_name 7 (by exact sc_l_great_right.nd)) dgs_nil)))) (dss_cons (ds_set 8 (by exact sc_l_great_right.nd) (de_call (by exact px_of) (by exact hgd) (ok_l_refusal (P := P) (w := w) (K := K) (mg := mg) (base := base) V D EX) (by exact hr.mono (by decide)) D.d_l_refusal.kp (b_l_refusal D) V.g_l_refusal (by rfl) (da_cons (de_var 5) (da_cons (de_tup (dl_cons de_int (dl_cons (de_var 6) dl_nil))) (da_cons (de_tup (dl_cons de_int (dl_cons (de_tup (dl_cons (de_tup (dl_cons (de_tup (dl_cons de_int (dl_cons de_int dl_nil))) (dl_cons (de_var 3) dl_nil))) dl_nil)) dl_nil))) da_nil)))))
    (dss_one (ds_if (dt_not (dt_val (de_call (by exact px_of) (by exact hgd) (ok_l_like (P := P) (w := w) (K := K) (mg := mg) (base := base) V D EX) (by exact hr.mono (by decide)) D.d_l_like.kp (b_l_like D) V.g_l_like (by rfl) (da_cons (de_var 8) (da_cons (de_lst (dl_cons de_str (dl_cons (de_var 7) dl_nil))) da_nil))))) (dss_one (ds_ret de_bl)) dss_nil))))
    (dss_cons (ds_own 9 (by exact sc_l_great_right.nd) (dl_cons (de_tup (dl_cons (de_tup (dl_cons (de_tup (dl_cons de_int (dl_cons de_int dl_nil))) (dl_cons (de_slice none (some 11) (de_var 0) po_none po_c pq_n pq_c) dl_nil))) dl_nil)) (dl_cons (de_tup (dl_cons (de_tup (dl_cons (de_tup (dl_cons de_int (dl_cons de_int dl_nil))) (dl_cons (de_var 0) dl_nil))) dl_nil)) (dl_cons (de_tup (dl_cons (de_tup (dl_cons (de_tup (dl_cons de_int (dl_cons de_int dl_nil))) (dl_cons (de_var 0) dl_nil))) dl_nil)) dl_nil))))
    (dss_cons (ds_app 9 (de_tup (dl_cons (de_tup (dl_cons (de_tup (dl_cons de_int (dl_cons (de_op op_mulD rd_mulD de_int (de_op op_pow rd_powD de_int de_int)) dl_nil))) (dl_cons (de_tup dl_nil) dl_nil))) (dl_cons (de_tup (dl_cons (de_tup (dl_cons de_int (dl_cons (de_op op_mulD rd_mulD de_int (de_op op_pow rd_powD de_int de_int)) dl_nil))) (dl_cons (de_tup dl_nil) dl_nil))) dl_nil))))
    (dss_frz 9 (dss_cons (ds_for (by exact passes_of rfl) (by rfl) (di_list (de_var 9)) (dg_name 6 (by exact sc_l_great_right.nd)) (dss_one (ds_if (dt_cmp op_notN rd_notN (de_call (by exact px_of) (by exact hgd) (ok_l_refusal (P := P) (w := w) (K := K) (mg := mg) (base := base) V D EX) (by exact hr.mono (by decide)) D.d_l_refusal.kp (b_l_refusal D) V.g_l_refusal (by rfl) (da_cons de_str (da_cons (de_tup (dl_cons de_int (dl_cons (de_var 6) dl_nil))) (da_cons de_non da_nil)))) de_non rfl) (dss_one (ds_ret de_bl)) dss_nil)))
    (dss_one (ds_ret (de_cmp op_isN rd_isN (de_call (by exact px_of) (by exact hgd) (ok_l_refusal (P := P) (w := w) (K := K) (mg := mg) (base := base) V D EX) (by exact hr.mono (by decide)) D.d_l_refusal.kp (b_l_refusal D) V.g_l_refusal (by rfl) (da_cons de_str (da_cons (de_tup (dl_cons de_int (dl_cons (de_tup (dl_cons (de_tup (dl_cons (de_tup (dl_cons (de_op op_sub rd_subD (de_var 2) de_int) (dl_cons de_int dl_nil))) (dl_cons (de_slice none (some 6) (de_var 0) po_none po_c pq_n pq_c) dl_nil))) dl_nil)) dl_nil))) (da_cons (de_tup (dl_cons de_int (dl_cons (de_tup (dl_cons (de_tup (dl_cons (de_tup (dl_cons de_int (dl_cons de_int dl_nil))) (dl_cons (de_var 3) dl_nil))) dl_nil)) dl_nil))) da_nil)))) de_non rfl)))))))))))))))⟩
--SPECIAL law
end
end Wh

namespace Wh
open PySem PySem.Spec PyProof.Rows L2

/-! ### _law_begin -/
def begLS (ns : List Int) : LS :=
  { cells := if ns = [] then [0] else ns, lefts := (if ns = [] then [0] else ns).map fun c => if (1000000000000000000 : Int) ≤ c then c else 0, at_ := 0 }
def spBeg (K : PySem.W.Frag) : Sp := fun vs H Q E => ∃ (l : Addr) (ns : List Int) (G : Hp), vs = [.ref l] ∧ SqL K H l (ns.map V.int) ∧ ns.length ≤ 63 ∧ Sub G H ∧
  ∀ a G' H', Ext none G H G' H' → StAt (some a) G' H' (begLS ns) → (H a.d = none ∧ H a.c = none ∧ H a.l = none) → Q (.ref a.d) H'
theorem SqL.keep {K : PySem.W.Frag} {H H' : Hp} {a : Addr} {xs : List V} (k : ∀ b o, H b = some o → H' b = some o) (h : SqL K H a xs) : SqL K H' a xs := by
  rcases h with (h | ⟨o, h⟩) | h
  · exact .inl (.inl (k _ _ h))
  · exact .inl (.inr ⟨o, k _ _ h⟩)
  · exact .inr h
theorem dp_ints {K : PySem.W.Frag} {H : Hp} : ∀ ns : List Int, DpAll K H (ns.map V.int) (ns.map .int)
  | [] => .nil
  | n :: ns => .cons (.int n) (dp_ints ns)
theorem can_ints : ∀ ns : List Int, PyData.canLayAll0 (ns.map .int) = true
  | [] => by simp [PyData.canLayAll0]
  | n :: ns => by simp [PyData.canLayAll0, PyData.canLay0, can_ints ns]
theorem shaped_ints (ns : List Int) : SeqAt.shaped (.list (ns.map .int)) = true := by
  unfold SeqAt.shaped
  rw [Bool.and_eq_true]
  refine ⟨?_, ?_⟩
  · simp [PyData.canLay0, can_ints ns]
  · have := ints_depth ns
    simp [PyData.depth, this]
theorem eqv_nil (ns : List Int) : PyData.eqv (.list (ns.map .int)) (.list []) = ns.isEmpty := by
  cases ns with
  | nil => decide
  | cons n ns => simp [PyData.eqv, PyData.eqvAll]
section
variable {P : Program} {w : World} {K : PySem.W.Frag} {mg : Str → Option Value} {base : Heap}
abbrev begT : Ev → M Bool := yesM
abbrev begE : Ev → M PyData := ifV (testM (opM geD (varM 2) (opM powD (kI 10) (kI 18)))) (varM 2) (kI 0)
/-- what the comprehension of lefts computes -/
theorem beg_lcL (ρ : Ev) (wd : LS) : ∀ ns : List Int, ρ.length = 3 → lcL [2] (tgN 2) begT begE ρ (ns.map .int) wd = .ok ((ns.map fun c => if (1000000000000000000 : Int) ≤ c then c else 0).map .int) wd
  | [], _ => rfl
  | n :: ns, h => by
    have ih := beg_lcL ρ wd ns h
    have e0 : (wipeE ρ [2]).set 2 (.fz (.int n)) = ρ.set 2 (.fz (.int n)) := by
      show (ρ.set 2 .un).set 2 _ = _
      rw [List.set_set]
    have g2 : (ρ.set 2 (Sl.fz (.int n)))[2]? = some (.fz (.int n)) := List.getElem?_set_self (by omega)
    have v2 : varM 2 (ρ.set 2 (.fz (.int n))) = pure (.int n) := by
      unfold varM
      rw [g2]
    have pw : (opM powD (kI 10) (kI 18)) (ρ.set 2 (.fz (.int n))) wd = .ok (.int 1000000000000000000) wd := by rfl
    have eb : begE (ρ.set 2 (.fz (.int n))) wd = .ok (.int (if (1000000000000000000 : Int) ≤ n then n else 0)) wd := by
      have t1 : testM (opM geD (varM 2) (opM powD (kI 10) (kI 18))) (ρ.set 2 (.fz (.int n))) wd = .ok (decide ((1000000000000000000 : Int) ≤ n)) wd := by
        show M.bind (M.bind (varM 2 (ρ.set 2 (.fz (.int n)))) (fun x => M.bind ((opM powD (kI 10) (kI 18)) (ρ.set 2 (.fz (.int n)))) (fun y => geD x y))) boolM wd = _
        rw [v2]
        rfl
      show M.bind (testM (opM geD (varM 2) (opM powD (kI 10) (kI 18))) (ρ.set 2 (.fz (.int n)))) (fun k => if k = true then varM 2 (ρ.set 2 (.fz (.int n))) else kI 0 (ρ.set 2 (.fz (.int n)))) wd = _
      unfold M.bind
      rw [t1, v2]
      by_cases q : (1000000000000000000 : Int) ≤ n
      · rw [if_pos q]
        simp only [decide_eq_true q, if_true]
        rfl
      · rw [if_neg q]
        simp only [decide_eq_false q, if_false, Bool.false_eq_true]
        rfl
    have e1 : M.calm (begE (ρ.set 2 (.fz (.int n)))) wd = .ok (.int (if (1000000000000000000 : Int) ≤ n then n else 0)) wd := by
      unfold M.calm
      rw [eb]
    show (match tgN 2 (.int n) (wipeE ρ [2]) with
      | none => M.no
      | some ρ1 => do
        let b ← M.calm (begT ρ1)
        if b = true then (do
          let y ← M.calm (begE ρ1)
          let r ← lcL [2] (tgN 2) begT begE ρ (ns.map .int)
          pure (y :: r)) else lcL [2] (tgN 2) begT begE ρ (ns.map .int)) wd = _
    have e2 : tgN 2 (.int n) (wipeE ρ [2]) = some (ρ.set 2 (.fz (.int n))) := by
      unfold tgN
      rw [e0]
    rw [e2]
    show M.bind (M.calm (begE (ρ.set 2 (.fz (.int n))))) (fun y => M.bind (lcL [2] (tgN 2) begT begE ρ (ns.map .int)) (fun r => pure (y :: r))) wd = _
    unfold M.bind
    rw [e1]
    simp only [ih]
    rfl
theorem ok_beg (V : MG K mg) (D : DF K) : FnG P w K mg base 1 (He.ga K "_law_begin") (fdOf K (He.ga K "_law_begin")) ["_law_script"] (spBeg K) := by
  refine fnG_of (k := 0) (N := N_l_begin) D.d_l_begin sc_l_begin (fun vs H Q E ⟨_, _, _, e, _⟩ => by rw [e]; rfl) fun cdv A outer s H vs Q E hgd hr ⟨l, ns, G, ev, hS, hl, hsub, hq⟩ => ?_
  subst ev
  refine ⟨_, pss_cons (ps_set (i := 1) sc_l_begin.nd rfl (.inl rfl) (DE.p (κ := kap K) (E := E) (de_if (dt_cmp (op_neD (by exact hu64 hr)) rd_neD (de_var 0) (de_lst dl_nil) rfl) (de_callTy call_list_of rd_listD (by rfl) V.n_list bt_list (dl_cons (de_var 0) dl_nil)) (de_lst (dl_cons de_int dl_nil)))))
    (pss_one (ps_ret (pe_disp (pps_cons pe_str (DE.p (κ := kap K) (E := E) (de_var 1)) (pps_cons pe_str (DE.p (κ := kap K) (E := E) (de_lc (own := [("_law_cell", 2)]) (by rfl) (by exact sc_l_begin.nd) (di_list (de_var 1)) (by exact blk_of (by kernel_rfl)) (fun _ _ _ _ _ => dg_name 2 (by exact sc_l_begin.nd)) (fun _ _ _ _ _ => dts_nil) (fun _ _ _ _ _ => de_if (dt_cmp op_ge rd_cmpD (de_var 2) (de_op op_pow rd_powD de_int de_int) rfl) (de_var 2) de_int))) (pps_cons pe_str pe_int pps_nil))) rfl rfl (by simp) (by decide)))), ?_⟩
  have hcells : (begLS ns).cells = if ns = [] then [0] else ns := rfl
  have hclen : (begLS ns).cells.length ≤ 63 := by
    rw [hcells]
    split
    · decide
    · exact hl
  have sz : ∀ {n : Nat}, n ≤ 63 → n ≤ sizeLine := fun h => small64 (by omega)
  -- the cells are made
  have main : ∀ (c : Addr) (H1 : Hp), (∀ b o, H b = some o → H1 b = some o) → (∀ b, H b ≠ none → H1 b ≠ none) → H1 c = none →
      (tRet (tDisp [(tC (.str "cells"), tVar 1), (tC (.str "lefts"), tLc (iList K (tVar 1)) (gName 2) tYes (tIf (tTest (tOp (rI0 fun i j => .bl (decide (j ≤ i))) (tVar 2) (tOp (rI CPow fun i j => .int (i ^ j.toNat)) (tC (.int 10)) (tC (.int 18))))) (tVar 2) (tC (.int 0))) [2]), (tC (.str "at"), tC (.int 0))]))
        { nx := fun _ H' => Q .non H', rt := Q } [some (.ref l), some (.ref c), none] (upd H1 c (.lst ((begLS ns).cells.map L2.V.int))) := by
    intro c H1 k1 k2 hc
    intro p hp
    have hpc : p ≠ c := fun e => by rw [e, upd_same] at hp; cases hp
    have hp1 : H1 p = none := by rw [upd_ne hpc] at hp; exact hp
    have hHc : H c = none := by
      cases z : H c with
      | none => rfl
      | some o => exact absurd hc (k2 c (not_none z))
    have hHp : H p = none := by
      cases z : H p with
      | none => rfl
      | some o => exact absurd hp1 (k2 p (not_none z))
    have gc : G c = none := hsub.new hHc
    -- the heap in which the comprehension runs
    have hcp : upd (upd H1 c (.lst ((begLS ns).cells.map L2.V.int))) p (.dK []) c = some (.lst ((begLS ns).cells.map L2.V.int)) := by rw [upd_ne (Ne.symm hpc), upd_same]
    refine ⟨_, rfl, ?_⟩
    have subc : Sub (upd G c (.lst ((begLS ns).cells.map L2.V.int))) (upd (upd H1 c (.lst ((begLS ns).cells.map L2.V.int))) p (.dK [])) := fun b o e => by
      by_cases hb : b = c
      · subst hb
        rw [upd_same] at e
        rw [hcp]
        exact e
      · rw [upd_ne hb] at e
        have hbp : b ≠ p := fun z => by
          have := hsub b o e
          rw [z, hHp] at this
          cases this
        rw [upd_ne hbp, upd_ne hb]
        exact k1 b o (hsub b o e)
    have env : Ent none [.un, .fz (.list ((begLS ns).cells.map .int)), .un] (begLS ns) [some (.ref l), some (.ref c), none] (upd G c (.lst ((begLS ns).cells.map L2.V.int))) (upd (upd H1 c (.lst ((begLS ns).cells.map L2.V.int))) p (.dK [])) := by
      refine ⟨subc, rfl, fun i s e => ?_, fun i j x y l h1 _ _ _ => ?_, True.intro⟩
      · match i, e with
        | 0, e =>
          cases e
          exact ⟨_, rfl, True.intro⟩
        | 1, e =>
          cases e
          exact ⟨_, rfl, _, rfl, .lst upd_same (AtAll.of_ints _)⟩
        | 2, e =>
          cases e
          exact ⟨_, rfl, True.intro⟩
        | n + 3, e => cases e
      · match i, h1 with
        | 0, e => cases e
        | 1, e => cases e
        | 2, e => cases e
        | n + 3, e => cases e
    dsimp only [tPairs, tC]
    refine rd_lc0 (κ := kap K) (E := E) (fI := itM listM (varM 1)) (fg := tgN 2) (is := [2]) (vs := [2]) (ft := begT) (fe := begE) (di_list (X := cxOf (L2.CX P w) P w K mg base N_l_begin "_law_begin" (defScope s_l_begin) (He.ga K "_law_begin") cdv A outer s H E) (tg := .Name "x" ⟨0, 0, 0, 0⟩) (de_var 1 (x := "_law_cells_so") (pos := ⟨0, 0, 0, 0⟩))).r (rd_gName 2) (by decide)
      (dts_nil (X := cxOf (L2.CX P w) P w K mg base N_l_begin "_law_begin" (defScope s_l_begin) (He.ga K "_law_begin") cdv A outer s H E)).r (rd_ifE (rd_tB (rd_op rd_cmpD (rd_var 2) (rd_op rd_powD (rd_const fun _ => .int 10) (rd_const fun _ => .int 18)))) (rd_var 2) (rd_const fun _ => .int 0)) env ?_
    have ev : lcP [2] (tgN 2) (itM listM (varM 1)) begT begE [.un, .fz (.list ((begLS ns).cells.map .int)), .un] (begLS ns) = .ok ((begLS ns).lefts.map .int) (begLS ns) := by
      show M.bind (pure ((begLS ns).cells.map PyData.int)) (fun ds => if ds.length ≤ sizeLine then lcL [2] (tgN 2) begT begE [.un, .fz (.list ((begLS ns).cells.map .int)), .un] ds else M.no) (begLS ns) = _
      show (if ((begLS ns).cells.map PyData.int).length ≤ sizeLine then lcL [2] (tgN 2) begT begE [.un, .fz (.list ((begLS ns).cells.map .int)), .un] ((begLS ns).cells.map .int) else M.no) (begLS ns) = _
      rw [if_pos (by rw [List.length_map]; exact sz hclen)]
      exact beg_lcL _ _ _ rfl
    rw [ev]
    intro G' H' x s lf xs h0 hlf hgl nmu av
    have exs := av.ints
    subst exs
    have hHlf : H lf = none := by
      cases z : H lf with
      | none => rfl
      | some o =>
        have hlp : lf ≠ p := fun e => by rw [e, hHp] at z; cases z
        have hlc : lf ≠ c := fun e => by rw [e, hHc] at z; cases z
        rw [upd_ne hlp, upd_ne hlc] at h0
        exact absurd h0 (k2 lf (not_none z))
    have hpl : p ≠ lf := fun e => by rw [← e, upd_same] at h0; cases h0
    have hcl : c ≠ lf := fun e => by rw [← e, hcp] at h0; cases h0
    refine ⟨x.hh p _ upd_same (fun z => z), [(.inr "cells", .ref c), (.inr "lefts", .ref lf), (.inr "at", .int 0)], rfl, by show 3 ≤ 15; decide, ?_⟩
    refine hq ⟨p, c, lf⟩ G (upd H' p (.dK [(.inr "cells", .ref c), (.inr "lefts", .ref lf), (.inr "at", .int 0)])) ⟨?_, Sub.refl G, ?_, ?_, fun _ _ => rfl⟩ ⟨upd_same, ?_, ?_, hsub.new hHp, gc, hsub.new hHlf, hcl⟩ ⟨hHp, hHc, hHlf⟩
    · intro b o e
      have hbp : b ≠ p := fun z => by have := hsub b o e; rw [z, hHp] at this; cases this
      have hbc : b ≠ c := fun z => by rw [z, gc] at e; cases e
      rw [upd_ne hbp]
      refine x.hh b o ?_ (fun z => z)
      rw [upd_ne hbp, upd_ne hbc]
      exact k1 b o (hsub b o e)
    · intro b o e _
      have hbp : b ≠ p := fun z => by rw [z, hHp] at e; cases e
      have hbc : b ≠ c := fun z => by rw [z, hHc] at e; cases e
      rw [upd_ne hbp]
      refine x.hh b o ?_ (fun z => z)
      rw [upd_ne hbp, upd_ne hbc]
      exact k1 b o e
    · intro b e
      by_cases hbp : b = p
      · rw [hbp, upd_same]; exact fun z => by cases z
      · rw [upd_ne hbp]
        refine x.hs b ?_
        rw [upd_ne hbp]
        by_cases hbc : b = c
        · rw [hbc, upd_same]; exact fun z => by cases z
        · rw [upd_ne hbc]; exact k2 b e
    · rw [upd_ne (Ne.symm hpc)]
      exact x.hh c _ hcp (fun z => z)
    · rw [upd_ne (Ne.symm hpl)]
      exact hlf
  -- is the script empty
  refine ⟨_, rfl, by show 0 ≤ sizeLine; exact Nat.zero_le _, fun q hq0 => ?_⟩
  have kq : ∀ b o, H b = some o → upd H q (.lst []) b = some o := fun b o e => by rw [upd_ne (ne_of_none e hq0)]; exact e
  have nq : ∀ b, H b ≠ none → upd H q (.lst []) b ≠ none := fun b e => by
    by_cases hb : b = q
    · rw [hb, upd_same]; exact fun z => by cases z
    · rw [upd_ne hb]; exact e
  refine ⟨.list (ns.map .int), .list [], .lst (SqL.keep kq hS) (dp_ints ns), .lst (SqL.of upd_same) .nil, shaped_ints ns, shaped_ints [], ?_⟩
  rw [eqv_nil]
  refine ⟨_, rfl, ?_⟩
  cases ns with
  | nil =>
    refine iteF ?_
    refine ⟨by show 1 ≤ sizeLine; decide, fun c hc => ?_⟩
    exact main c _ kq nq hc
  | cons n ns =>
    refine iteT ?_
    refine ⟨_, rfl, l, _, rfl, .inl (SqL.keep kq hS), fun c hc => ?_⟩
    exact main c _ kq nq hc
end
end Wh

namespace Wh
open PySem PySem.Spec PyProof.Rows L2

/-! ### law -/
def condOf : Stmt → Expr
  | .If c _ _ _ => c
  | _ => .Constant .none 0 ⟨0, 0, 0, 0⟩
def lawE0 : Ev := List.replicate 21 .un
/-- what the law computes on the script ns -/
def LawOk (ns : List Int) : Prop := m_law_t lawE0 (begLS ns) = .ok false (begLS ns) ∧ ∃ w', m_law_rest (lawE0.set 1 .st) (begLS ns) = .ok (.rt (.bool true)) w'
def spLaw (K : PySem.W.Frag) : Sp := fun vs H Q E => ∃ (l : Addr) (ns : List Int), vs = [.ref l] ∧ SqL K H l (ns.map L2.V.int) ∧ ns.length ≤ 63 ∧ ∀ H', Q (.bl true) H'
section
variable {P : Program} {w : World} {K : PySem.W.Frag} {mg : Str → Option Value} {base : Heap}
theorem ok_law (hm : ∀ ns : List Int, ns.length ≤ 63 → LawOk ns) (V : MG K mg) (D : DF K) (EX : ExcK K) : FnG P w K mg base 17 (He.ga K "law") (fdOf K (He.ga K "law")) ["_law_script"] (spLaw K) := by
  refine fnG_of (k := 16) (N := N_law) D.d_law sc_law (fun vs H Q E ⟨_, _, e, _⟩ => by rw [e]; rfl) fun cdv A outer s H vs Q E hgd hr ⟨l, ns, ev, hS, hl, hq⟩ => ?_
  subst ev
  obtain ⟨tt, htt⟩ : ∃ t, DT (cxOf (L2.CX P w) P w K mg base N_law "law" (defScope s_law) (He.ga K "law") cdv A outer s H E) (kap K) E (condOf ((defBody s_law).headD (.Pass ⟨0, 0, 0, 0⟩))) t m_law_t := ⟨_, (DW.t (dw_or (dt_not (dt_val (de_call0 (by exact px_of) (by exact hgd) (ok_l_unions_right (P := P) (w := w) (K := K) (mg := mg) (base := base) V D EX) (by exact hr.mono (by decide)) D.d_l_unions_right.kp (b_l_unions_right D) V.g_l_unions_right (by rfl)))) (dw_or1 (dt_not (dt_val (de_call0 (by exact px_of) (by exact hgd) (ok_l_great_right (P := P) (w := w) (K := K) (mg := mg) (base := base) V D EX) (by exact hr.mono (by decide)) D.d_l_great_right.kp (b_l_great_right D) V.g_l_great_right (by rfl)))))))⟩
  obtain ⟨tr, htr⟩ : ∃ t, DSs (cxOf (L2.CX P w) P w K mg base N_law "law" (defScope s_law) (He.ga K "law") cdv A outer s H E) (kap K) E ((defBody s_law).drop 2) t m_law_rest := ⟨_, (dss_cons (ds_set 2 (by exact sc_law.nd) (de_op op_addD rd_addD de_int (de_call (by exact px_of) (by exact hgd) (ok_l_draw (P := P) (w := w) (K := K) (mg := mg) (base := base) V D EX) (by exact hr.mono (by decide)) D.d_l_draw.kp (b_l_draw D) V.g_l_draw (by rfl) (da_st 1 (da_cons de_int da_nil)))))
    (dss_cons (ds_asg (de_tup (dl_cons (de_call (by exact px_of) (by exact hgd) (ok_l_lines (P := P) (w := w) (K := K) (mg := mg) (base := base) V D EX) (by exact hr.mono (by decide)) D.d_l_lines.kp (b_l_lines D) V.g_l_lines (by rfl) (da_st 1 (da_cons (de_var 2) da_nil))) (dl_cons (de_call (by exact px_of) (by exact hgd) (ok_l_lines (P := P) (w := w) (K := K) (mg := mg) (base := base) V D EX) (by exact hr.mono (by decide)) D.d_l_lines.kp (b_l_lines D) V.g_l_lines (by rfl) (da_st 1 (da_cons (de_var 2) da_nil))) dl_nil))) (dg_tupK K (by rfl) (by rfl) (dgs_cons (dg_name 3 (by exact sc_law.nd)) (dgs_cons (dg_name 4 (by exact sc_law.nd)) dgs_nil))))
    (dss_cons (ds_if (dt_not (dt_val (de_call (by exact px_of) (by exact hgd) (ok_l_refusals_right (P := P) (w := w) (K := K) (mg := mg) (base := base) V D EX) (by exact hr.mono (by decide)) D.d_l_refusals_right.kp (b_l_refusals_right D) V.g_l_refusals_right (by rfl) (da_st 1 (da_cons (de_var 3) da_nil))))) (dss_one (ds_ret de_bl)) dss_nil)
    (dss_cons (ds_par 5 6 (by rfl) (by exact sc_law.nd) (dl_cons (de_lst dl_nil) (dl_cons (de_call (by exact px_of) (by exact hgd) (ok_l_star_lines (P := P) (w := w) (K := K) (mg := mg) (base := base) V D EX) (by exact hr.mono (by decide)) D.d_l_star_lines.kp (b_l_star_lines D) V.g_l_star_lines (by rfl) (da_cons (de_var 3) da_nil)) dl_nil)))
    (dss_cons (ds_for (by exact passes_of rfl) (by rfl) (di_tup (de_ix (de_var 3) de_int)) (dg_tupK K (by rfl) (by rfl) (dgs_cons (dg_name 7 (by exact sc_law.nd)) (dgs_cons (dg_name 8 (by exact sc_law.nd)) dgs_nil))) (dss_one (ds_set 5 (by exact sc_law.nd) (de_op op_addD rd_addD (de_var 5) (de_lc (own := [("_law_line", 9)]) (by rfl) (by exact sc_law.nd) (di_tup (de_ix (de_var 4) de_int)) (by exact blk_of (by kernel_rfl)) (fun _ _ _ _ _ => (dg_name 9 (by exact sc_law.nd))) (fun _ _ _ _ _ => dts_nil) (fun _ _ _ _ _ => (de_tup (dl_cons (de_call (E := EF) (by exact passL) (by exact hgd) (ok_l_plus (P := P) (w := w) (K := K) (mg := mg) (base := base) V D EX) (by exact hr.mono (by decide)) D.d_l_plus.kp (b_l_plus D) V.g_l_plus (by rfl) (da_cons (de_var 7) (da_cons (de_ixK (E := EF) K (by rfl) (de_var 9) de_int) da_nil))) (dl_cons (de_op (op_addDK K (by rfl)) (rd_addD (K := K)) (de_var 8) (de_ixK (E := EF) K (by rfl) (de_var 9) de_int)) dl_nil)))))))))
    (dss_cons (ds_if (dt_not (dt_val (de_call (by exact px_of) (by exact hgd) (ok_l_like (P := P) (w := w) (K := K) (mg := mg) (base := base) V D EX) (by exact hr.mono (by decide)) D.d_l_like.kp (b_l_like D) V.g_l_like (by rfl) (da_cons (de_call (by exact px_of) (by exact hgd) (ok_union (P := P) (w := w) (K := K) (mg := mg) (base := base) V D EX) (by exact hr.mono (by decide)) D.d_union.kp (b_union D) V.g_union (by rfl) (da_cons (de_var 3) (da_cons (de_var 4) da_nil))) (da_cons (de_tup (dl_cons (de_var 2) (dl_cons (de_call (by exact px_of) (by exact hgd) (ok_l_clean (P := P) (w := w) (K := K) (mg := mg) (base := base) V D EX) (by exact hr.mono (by decide)) D.d_l_clean.kp (b_l_clean D) V.g_l_clean (by rfl) (da_cons (de_op op_addD rd_addD (de_ix (de_var 3) de_int) (de_ix (de_var 4) de_int)) da_nil)) dl_nil))) da_nil))))) (dss_one (ds_ret de_bl)) dss_nil)
    (dss_cons (ds_if (dt_not (dt_val (de_call (by exact px_of) (by exact hgd) (ok_l_like (P := P) (w := w) (K := K) (mg := mg) (base := base) V D EX) (by exact hr.mono (by decide)) D.d_l_like.kp (b_l_like D) V.g_l_like (by rfl) (da_cons (de_call (by exact px_of) (by exact hgd) (ok_sum_of (P := P) (w := w) (K := K) (mg := mg) (base := base) V D EX) (by exact hr.mono (by decide)) D.d_sum_of.kp (b_sum_of D) V.g_sum_of (by rfl) (da_cons (de_var 3) (da_cons (de_var 4) da_nil))) (da_cons (de_tup (dl_cons (de_var 2) (dl_cons (de_call (by exact px_of) (by exact hgd) (ok_l_clean (P := P) (w := w) (K := K) (mg := mg) (base := base) V D EX) (by exact hr.mono (by decide)) D.d_l_clean.kp (b_l_clean D) V.g_l_clean (by rfl) (da_cons (de_var 5) da_nil)) dl_nil))) da_nil))))) (dss_one (ds_ret de_bl)) dss_nil)
    (dss_cons (ds_if (dt_not (dt_val (de_call (by exact px_of) (by exact hgd) (ok_l_like (P := P) (w := w) (K := K) (mg := mg) (base := base) V D EX) (by exact hr.mono (by decide)) D.d_l_like.kp (b_l_like D) V.g_l_like (by rfl) (da_cons (de_call (by exact px_of) (by exact hgd) (ok_star (P := P) (w := w) (K := K) (mg := mg) (base := base) V D EX) (by exact hr.mono (by decide)) D.d_star.kp (b_star D) V.g_star (by rfl) (da_cons (de_var 3) da_nil)) (da_cons (de_tup (dl_cons (de_var 2) (dl_cons (de_var 6) dl_nil))) da_nil))))) (dss_one (ds_ret de_bl)) dss_nil)
    (dss_cons (ds_set 10 (by exact sc_law.nd) (de_call (by exact px_of) (by exact hgd) (ok_l_grid (P := P) (w := w) (K := K) (mg := mg) (base := base) V D EX) (by exact hr.mono (by decide)) D.d_l_grid.kp (b_l_grid D) V.g_l_grid (by rfl) (da_cons (de_var 2) (da_cons de_int da_nil))))
    (dss_cons (ds_setLc (own := [("_law_row_here", 12)]) 11 (by rfl) (by exact sc_law.nd) (di_list (de_var 10)) (by exact blk_of (by kernel_rfl)) (fun _ _ _ _ _ => (dg_name 12 (by exact sc_law.nd))) (fun _ _ _ _ _ => (dts_one (dt_val (de_call (E := EF) (by exact passL) (by exact hgd) (ok_l_has (P := P) (w := w) (K := K) (mg := mg) (base := base) V D EX) (by exact hr.mono (by decide)) D.d_l_has.kp (b_l_has D) V.g_l_has (by rfl) (da_cons (de_ixK (E := EF) K (by rfl) (de_var 3) de_int) (da_cons (de_var 12) da_nil)))))) (fun _ _ _ _ _ => (de_var 12)))
    (dss_cons (ds_setLc (own := [("_law_row_here", 12)]) 13 (by rfl) (by exact sc_law.nd) (di_list (de_var 10)) (by exact blk_of (by kernel_rfl)) (fun _ _ _ _ _ => (dg_name 12 (by exact sc_law.nd))) (fun _ _ _ _ _ => (dts_one (dt_val (de_call (E := EF) (by exact passL) (by exact hgd) (ok_l_has (P := P) (w := w) (K := K) (mg := mg) (base := base) V D EX) (by exact hr.mono (by decide)) D.d_l_has.kp (b_l_has D) V.g_l_has (by rfl) (da_cons (de_ixK (E := EF) K (by rfl) (de_var 4) de_int) (da_cons (de_var 12) da_nil)))))) (fun _ _ _ _ _ => (de_var 12)))
    (dss_cons (ds_par3 14 15 16 (by rfl) (by exact sc_law.nd) (dl_cons (de_ix (de_call (by exact px_of) (by exact hgd) (ok_union (P := P) (w := w) (K := K) (mg := mg) (base := base) V D EX) (by exact hr.mono (by decide)) D.d_union.kp (b_union D) V.g_union (by rfl) (da_cons (de_var 3) (da_cons (de_var 4) da_nil))) de_int) (dl_cons (de_ix (de_call (by exact px_of) (by exact hgd) (ok_sum_of (P := P) (w := w) (K := K) (mg := mg) (base := base) V D EX) (by exact hr.mono (by decide)) D.d_sum_of.kp (b_sum_of D) V.g_sum_of (by rfl) (da_cons (de_var 3) (da_cons (de_var 4) da_nil))) de_int) (dl_cons (de_ix (de_call (by exact px_of) (by exact hgd) (ok_star (P := P) (w := w) (K := K) (mg := mg) (base := base) V D EX) (by exact hr.mono (by decide)) D.d_star.kp (b_star D) V.g_star (by rfl) (da_cons (de_var 3) da_nil)) de_int) dl_nil))))
    (dss_cons (ds_par 17 18 (by rfl) (by exact sc_law.nd) (dl_cons (de_call (by exact px_of) (by exact hgd) (ok_l_sums (P := P) (w := w) (K := K) (mg := mg) (base := base) V D EX) (by exact hr.mono (by decide)) D.d_l_sums.kp (b_l_sums D) V.g_l_sums (by rfl) (da_cons (de_var 11) (da_cons (de_var 13) (da_cons (de_var 10) da_nil)))) (dl_cons (de_call (by exact px_of) (by exact hgd) (ok_l_star_rows (P := P) (w := w) (K := K) (mg := mg) (base := base) V D EX) (by exact hr.mono (by decide)) D.d_l_star_rows.kp (b_l_star_rows D) V.g_l_star_rows (by rfl) (da_cons (de_var 11) (da_cons (de_var 10) da_nil))) dl_nil)))
    (dss_cons (ds_for (by exact passes_of rfl) (by rfl) (di_list (de_var 10)) (dg_name 12 (by exact sc_law.nd)) (dss_cons (ds_if (dt_cmp (op_neD (by exact hu64 hr)) rd_neD (de_call (by exact px_of) (by exact hgd) (ok_l_has (P := P) (w := w) (K := K) (mg := mg) (base := base) V D EX) (by exact hr.mono (by decide)) D.d_l_has.kp (b_l_has D) V.g_l_has (by rfl) (da_cons (de_var 14) (da_cons (de_var 12) da_nil))) (de_or (de_inSl (by exact hu65 hr) 11 (de_var 12)) (de_one (de_inSl (by exact hu65 hr) 13 (de_var 12)))) rfl) (dss_one (ds_ret de_bl)) dss_nil)
    (dss_one (ds_if (dt_cmp (op_neD (by exact hu64 hr)) rd_neD (de_call (by exact px_of) (by exact hgd) (ok_l_has (P := P) (w := w) (K := K) (mg := mg) (base := base) V D EX) (by exact hr.mono (by decide)) D.d_l_has.kp (b_l_has D) V.g_l_has (by rfl) (da_cons (de_var 15) (da_cons (de_var 12) da_nil))) (de_inSl (by exact hu65 hr) 17 (de_var 12)) rfl) (dss_one (ds_ret de_bl)) dss_nil))))
    (dss_cons (ds_setLc (own := [("_law_k", 20)]) 19 (by rfl) (by exact sc_law.nd) (di_rng1 (by rfl) V.n_range (dl_cons de_int dl_nil)) (by exact blk_of (by kernel_rfl)) (fun _ _ _ _ _ => (dg_name 20 (by exact sc_law.nd))) (fun _ _ _ _ _ => dts_nil) (fun _ _ _ _ _ => (de_call (E := EF) (by exact passL) (by exact hgd) (ok_l_draw (P := P) (w := w) (K := K) (mg := mg) (base := base) V D EX) (by exact hr.mono (by decide)) D.d_l_draw.kp (b_l_draw D) V.g_l_draw (by rfl) (da_st 1 (da_cons (de_callB call_lenD rd_lenD (by rfl) V.n_len bt_len (dl_cons (de_var 10) dl_nil)) da_nil)))))
    (dss_cons (ds_for (by exact passes_of rfl) (by rfl) (di_list (de_lc (own := [("_law_k", 20)]) (by rfl) (by exact sc_law.nd) (di_list (de_var 19)) (by exact blk_of (by kernel_rfl)) (fun _ _ _ _ _ => (dg_name 20 (by exact sc_law.nd))) (fun _ _ _ _ _ => dts_nil) (fun _ _ _ _ _ => (de_ixK (E := EF) K (by rfl) (de_var 10) (de_var 20))))) (dg_name 12 (by exact sc_law.nd)) (dss_one (ds_if (dt_cmp (op_neD (by exact hu64 hr)) rd_neD (de_call (by exact px_of) (by exact hgd) (ok_l_has (P := P) (w := w) (K := K) (mg := mg) (base := base) V D EX) (by exact hr.mono (by decide)) D.d_l_has.kp (b_l_has D) V.g_l_has (by rfl) (da_cons (de_var 16) (da_cons (de_var 12) da_nil))) (de_inSl (by exact hu65 hr) 18 (de_var 12)) rfl) (dss_one (ds_ret de_bl)) dss_nil)))
    (dss_one (ds_ret de_bl))))))))))))))))))⟩
  refine ⟨_, pss_cons (ps_if htt.p (pss_one (ps_ret pe_bl)) pss_nil) (pss_cons (ps_set (i := 1) sc_law.nd rfl (.inr rfl) (pe_callG (E := EF) (ok_beg V D) hgd (hr.mono (by decide)) rfl V.g_l_begin D.d_l_begin.kp (b_l_begin D) passL (pa_cons (pe_var (i := 0) rfl (.inl rfl) (by decide) (by decide)) pa_nil))) htr.p), ?_⟩
  obtain ⟨m1, w', m2⟩ := hm ns hl
  have env : Ent none lawE0 (begLS ns) (start N_law [.ref l]) (fun _ => none) H := by
    refine ⟨fun a o e => (by cases e), rfl, fun i sl e => ?_, fun i j x y l h1 _ _ _ => ?_, True.intro⟩
    · have hi := (List.getElem?_eq_some_iff.mp e).1
      have hs : sl = .un := by
        unfold lawE0 at e
        rw [List.getElem?_replicate] at e
        split at e
        · exact (Option.some.inj e).symm
        · cases e
      subst hs
      have hlen : (start N_law [L2.V.ref l]).length = 21 := rfl
      have hi2 : i < (start N_law [L2.V.ref l]).length := by rw [hlen]; exact hi
      exact ⟨_, List.getElem?_eq_getElem hi2, True.intro⟩
    · unfold lawE0 at h1
      rw [List.getElem?_replicate] at h1
      split at h1 <;> cases h1
  refine htt.r none (fun _ => none) H lawE0 (begLS ns) _ _ env ?_
  rw [m1]
  intro G1 H1 x1 s1
  refine iteF ?_
  refine ⟨.ref l, rfl, l, ns, G1, rfl, SqL.keep (fun b o e => x1.hh b o e fun z => z) hS, hl, x1.sub, fun a G2 H2 x2 s2 fr => ?_⟩
  have env2 : Ent (some a) (lawE0.set 1 .st) (begLS ns) ((start N_law [.ref l]).set 1 (some (.ref a.d))) G2 H2 := by
    have e1 := env.ext x1 s1
    refine ⟨x2.sub, by rw [List.length_set, List.length_set]; exact env.len, fun i sl e => ?_, fun i j x y l h1 _ _ _ => ?_, s2⟩
    · rcases get_set e with ⟨rfl, rfl, hlt⟩ | ⟨hne, e'⟩
      · exact ⟨_, List.getElem?_set_self (show 1 < 21 by decide), a, rfl, rfl⟩
      · obtain ⟨o, h1, h2⟩ := env.sl i sl e'
        refine ⟨o, by rw [List.getElem?_set_ne hne]; exact h1, ?_⟩
        have hs : sl = .un := by
          unfold lawE0 at e'
          rw [List.getElem?_replicate] at e'
          split at e'
          · exact (Option.some.inj e').symm
          · cases e'
        subst hs
        exact True.intro
    · rcases get_set h1 with ⟨_, q, _⟩ | ⟨_, e'⟩
      · cases q
      · unfold lawE0 at e'
        rw [List.getElem?_replicate] at e'
        split at e' <;> cases e'
  refine htr.r (some a) G2 H2 G2 H2 _ (begLS ns) _ _ env2 ⟨Ext.refl x2.sub, fun i x l h1 _ => ?_⟩ ?_
  · exfalso
    rcases get_set h1 with ⟨_, q, _⟩ | ⟨_, e'⟩
    · cases q
    · unfold lawE0 at e'
      rw [List.getElem?_replicate] at e'
      split at e' <;> cases e'
  · rw [m2]
    intro v G3 H3 x3 s3 av
    cases av
    exact hq H3
end
end Wh

namespace Wh
open PySem PySem.Spec PyProof.Rows L2

/-- the end: a def of FnG called by the row's caller, on a script that is known to the object or to the written part -/
theorem law_callG {P : Program} {w : World} {K : PySem.W.Frag} {mg mb : Str → Option Value} {k : Nat} {fa a : Addr} {fd : FuncData} {x : Str} {sp : Sp} {s₁ : Shared} {vs : List Value} {ns : List Int}
    (KX : K.In s₁.heap) (hns : s₁.heap.Ns mainGlobals mg) (hb : s₁.heap.Ns builtinsNs mb) (hbb : ∀ x : Str, x ≠ "__name__" → mb x = bootBuiltins x) (hlim : s₁.heap.NoLimit) (hg : s₁.gens = #[])
    (ha : s₁.heap.get? a = some { cls := .type "list", data := .seq vs.toArray }) (hi : IntsAre vs ns) (hl : ns.length ≤ sizeLine) (hr : Room k callerA)
    (F : ∀ base : Heap, K.In base → base.Ns mainGlobals mg → FnG P w K mg base k fa fd [x] sp) (hbind : ∀ (s : Shared) (u : Value), BindsTo s fd ⟨[u], []⟩ [(x, u)])
    (hsp : ∀ H : Hp, SqL K H a (ns.map L2.V.int) → sp [.ref a] H (fun v _ => v = .bl true) fun _ _ _ => False) :
    codeAny (model P w) callerA (.call (.ref fa) ⟨[.ref a], []⟩) (fun r s' => r = .ok (.ret (.bool true)) ∧ OldK s₁.heap s'.heap ∧ s'.os = s₁.os ∧ AllBare s'.gens) s₁ := by
  have rv := vals_ints hi
  -- the heap of known things: at most the script
  have key : ∀ H : Hp, (∀ b u, H b = some u → b = a ∧ u = .frz { cls := .type "list", data := .seq vs.toArray } (.lst (ns.map L2.V.int))) → (H a ≠ none → K.lookup a = none) → SqL K H a (ns.map L2.V.int) → HOk P w H s₁.heap →
      codeAny (model P w) callerA (.call (.ref fa) ⟨[.ref a], []⟩) (fun r s' => r = .ok (.ret (.bool true)) ∧ OldK s₁.heap s'.heap ∧ s'.os = s₁.os ∧ AllBare s'.gens) s₁ := by
    intro H hO hK hS hok
    have out : ∀ {b : Addr} {o : Obj}, s₁.heap.get? b = some o → (∀ es ep, o.data = .dict es ep → True) → H b = none → (hidT s₁.heap H).get? b = some o := fun e _ n => hidT_get e n
    have dictOut : ∀ {b : Addr} {o : Obj} {es : Array DictEntry} {ep : Nat}, s₁.heap.get? b = some o → o.data = .dict es ep → H b = none := fun {b o es ep} e d => by
      cases q : H b with
      | none => rfl
      | some u =>
        obtain ⟨rfl, _⟩ := hO b u q
        rw [ha] at e
        cases e
        have d' : Data.seq vs.toArray _ = Data.dict es ep := d
        cases d'
    have nsOut : ∀ {b : Addr} {m : Str → Option Value}, s₁.heap.Ns b m → (hidT s₁.heap H).Ns b m := fun {b m} ⟨o, es, ep, e, d, r⟩ => ⟨o, es, ep, out e (fun _ _ _ => True.intro) (dictOut e d), d, r⟩
    have KB : K.In (hidT s₁.heap H) := fun b o e => out (KX b o e) (fun _ _ _ => True.intro) (by
      cases q : H b with
      | none => rfl
      | some u =>
        obtain ⟨rfl, _⟩ := hO b u q
        rw [hK (not_none q)] at e
        cases e)
    have MM : Mod K mg (hidT s₁.heap H) := ⟨KB, nsOut hns, ⟨mb, nsOut hb, hbb⟩, let ⟨mc, h1, h2⟩ := hlim; ⟨mc, nsOut h1, h2⟩⟩
    have E0' : Env0 P w K mg (hidT s₁.heap H) callerA [] s₁ H := ⟨rfl, MM, fun b o e => of_hidT e, Nat.le_of_eq (hidT_size _ _), trivial, fun b hb => absurd (show b ∈ ([] : List Addr) from hb) (by simp), hok, .of_eq hg⟩
    refine codeAny_mono ((F _ KB (nsOut hns)).run callerA [] s₁ H ⟨[.ref a], []⟩ [.ref a] [.ref a] _ (fun _ _ _ => False) rfl hr E0' (hbind s₁ (.ref a)) (.cons rfl .nil) (hsp H hS)) fun r s' h => ?_
    match r, h with
    | .error e, h =>
      obtain ⟨_, _, _, _, _, _, _, _, _, _, _, _, z⟩ := h
      exact z.elim
    | .ok .next, h => exact h.elim
    | .ok .brk, h => exact h.elim
    | .ok .cont, h => exact h.elim
    | .ok (.ret u), h =>
      obtain ⟨v, H', os, bare, un, hok', r', q⟩ := h
      have q' : v = .bl true := q
      subst q'
      obtain rfl : u = Value.bool true := r'
      refine ⟨rfl, OldK.of_keep fun b o e => ?_, os, bare⟩
      cases q : H b with
      | none => exact un.keep b o e q (by intro z; exact absurd (show b ∈ ([] : List Addr) from z) (by simp)) (by simp)
      | some u =>
        obtain ⟨rfl, rfl⟩ := hO b u q
        have z2 := un.frzs b _ _ q
        obtain ⟨e2, _⟩ := hok' b _ z2
        rw [ha] at e
        cases e
        exact e2
  cases hk : K.lookup a with
  | some o =>
    have e := KX a o hk
    rw [ha] at e
    cases e
    exact key (fun _ => none) (fun b u z => by cases z) (fun z => absurd rfl z) (.inr ⟨_, vs.toArray, _, hk, rfl, rfl, rfl, by rw [List.size_toArray, hi.length]; exact hl, by simpa using rv⟩) (fun b u z => by cases z)
  | none =>
    refine key (upd (fun _ => none) a (.frz { cls := .type "list", data := .seq vs.toArray } (.lst (ns.map L2.V.int)))) (fun b u z => ?_) (fun _ => hk) (.inl (.inr ⟨_, upd_same⟩)) (fun b u z => ?_)
    · by_cases hb' : b = a
      · subst hb'
        rw [upd_same] at z
        exact ⟨rfl, (Option.some.inj z).symm⟩
      · rw [upd_ne hb'] at z
        cases z
    · by_cases hb' : b = a
      · subst hb'
        rw [upd_same] at z
        cases z
        exact ⟨ha, by rw [List.length_map]; exact hl, vs, _, rv, ha⟩
      · rw [upd_ne hb'] at z
        cases z
theorem facts (hm : ∀ ns : List Int, ns.length ≤ 63 → LawOk ns) {P : Program} {w : World} {h : Heap} {mg : Str → Option Value} {f : Addr} {K : PySem.W.Frag} (X : K.In h) (G : h.Ns mainGlobals mg) (hfa : mg ("law" : Str) = some (.ref f)) (c : Says K) :
    ∃ fd : FuncData, (∀ (s : Shared) (v : Value), BindsTo s fd ⟨[v], []⟩ [("_law_script", v)]) ∧ ∀ base : Heap, K.In base → base.Ns mainGlobals mg → FnG P w K mg base 17 f fd ["_law_script"] (spLaw K) := by
  have V := mg_of X G c
  have D := df_of c
  have e := hfa.symm.trans V.g_law
  cases e
  have b := FunD.bindsA (ps := ["_law_script"]) D.d_law fun _ _ _ _ _ _ us hl => match us, hl with | [_], _ => rfl
  exact ⟨_, fun s v => b s [v] rfl, fun base _ _ => ok_law hm V D (excK_of c.e)⟩
end Wh
open PySem PySem.W PySem.Calls PyProof.Rows
theorem PySem.Challenge.cw_of (hm : ∀ ns : List Int, ns.length ≤ 63 → Wh.LawOk ns) : PySem.Challenge.rw_wholesay_k25_whole_unions_sums_stars.Holds := by
  w_on; o_law
  refine HandSHeadRun.head_any (r := OpenLaw.row PySem.Challenge.rw_wholesay_k25_whole_unions_sums_stars) (q := view (OpenLaw.row PySem.Challenge.rw_wholesay_k25_whole_unions_sums_stars).prog [47]) (H := Wh.hk) (ob := Wh.ob) (M := 4000) (loose := Wh.loose) (d := HandSHeadRun.topDef (OpenLaw.row PySem.Challenge.rw_wholesay_k25_whole_unions_sums_stars).prog 47) (kwd := []) Wh.ob_eq
    (by kernel_rfl) (fun s => by kernel_rfl) Wh.run (by kernel_rfl) (by kernel_rfl) (by kernel_rfl) (by rfl) (by first | assumption | decide +kernel) (by decide +kernel) ⟨rfl, rfl, rfl, rfl, rfl, by decide +kernel⟩ ?hw ?hc
  case hw => w_witness2
  case hc =>
    refine Att.attach_call (l := PySem.Challenge.rw_wholesay_k25_whole_unions_sums_stars) (n := 63) rfl (by kernel_rfl) fun w s₀ s₁ mg mb fa o pm cd doc a vs ns G Y ho hd hcd hmg0 hobj hints hlen hg => ?_
    obtain ⟨K, KX, c⟩ := Y
    have hmg : mg ("law" : PySem.Str) = some (.ref fa) := by
      have e : (HandSHeadRun.topDef (OpenLaw.row PySem.Challenge.rw_wholesay_k25_whole_unions_sums_stars).prog 47).name = ("law" : PySem.Str) := by kernel_rfl
      rw [← e]
      exact hmg0
    obtain ⟨fd, hb, hF⟩ := Wh.facts hm (P := (PySem.Challenge.rw_wholesay_k25_whole_unions_sums_stars).prog) (w := w) KX G.T.g hmg c
    exact Wh.law_callG KX G.T.g G.T.b G.T.builtins G.T.nolimit hg hobj hints (L2.small64 (by omega)) (k := 17) ⟨rfl, by decide, by decide⟩ hF hb fun H hS => ⟨a, ns, rfl, hS, hlen, fun _ => rfl⟩

namespace Wh
open PySem PySem.Spec PyProof.Rows L2

/-! ### computing with M -/
section
variable {α β : Type}
theorem bind_w (m : M α) (f : α → M β) (w : LS) : (m >>= f) w = match m w with
  | .ok a w' => f a w'
  | .er c d w' => .er c d w'
  | .no => .no := rfl
theorem pure_w (a : α) (w : LS) : (pure a : M α) w = .ok a w := rfl
theorem raise_w (c : Cl) (d : PyData) (w : LS) : (M.raise c d : M α) w = .er c d w := rfl
theorem bk {m : M α} {f : α → M β} {w w' : LS} {a : α} (h : m w = .ok a w') : (m >>= f) w = f a w' := by rw [bind_w, h]
theorem be {m : M α} {f : α → M β} {w w' : LS} {c : Cl} {d : PyData} (h : m w = .er c d w') : (m >>= f) w = .er c d w' := by rw [bind_w, h]
theorem calm_w {m : M α} {w w' : LS} {a : α} (h : m w = .ok a w') : M.calm m w = .ok a w' := by
  unfold M.calm
  rw [h]
end

/-! ### vectors and lines as data -/
abbrev Vec := List Int
abbrev Lin := Vec × List Vec
def dV (v : Vec) : PyData := .tuple (v.map .int)
def dL (l : Lin) : PyData := .tuple [dV l.1, .tuple (l.2.map dV)]
abbrev tV (v : Vec) : PySem.W.Tup Int := ⟨v⟩
abbrev tL (l : Lin) : PySem.W.Tup Int × PySem.W.Tup (PySem.W.Tup Int) := (⟨l.1⟩, ⟨l.2.map tV⟩)
theorem dV_eq (v : Vec) : dV v = PySem.W.Datum.toD (tV v) := rfl
theorem dL_eq (l : Lin) : dL l = PySem.W.Datum.toD (tL l) := by
  show PyData.tuple [dV l.1, .tuple (l.2.map dV)] = PyData.tuple [PySem.W.Datum.toD (tV l.1), .tuple ((l.2.map tV).map PySem.W.Datum.toD)]
  rw [List.map_map]
  rfl
theorem tV_inj {v u : Vec} : tV v = tV u ↔ v = u := by
  constructor
  · intro h
    have := congrArg PySem.W.Tup.items h
    exact this
  · intro h
    rw [h]
theorem map_tV_inj : ∀ {a b : List Vec}, a.map tV = b.map tV ↔ a = b
  | [], [] => by simp
  | [], _ :: _ => by simp
  | _ :: _, [] => by simp
  | x :: a, y :: b => by
    rw [List.map_cons, List.map_cons, List.cons.injEq, List.cons.injEq, tV_inj, map_tV_inj]
theorem tL_inj {a b : Lin} : tL a = tL b ↔ a = b := by
  obtain ⟨a1, a2⟩ := a
  obtain ⟨b1, b2⟩ := b
  constructor
  · intro h
    have h1 := congrArg Prod.fst h
    have h2 := congrArg (fun z : PySem.W.Tup Int × PySem.W.Tup (PySem.W.Tup Int) => z.2.items) h
    exact Prod.ext (tV_inj.mp h1) (map_tV_inj.mp h2)
  · intro h
    rw [h]
theorem eqv_V (v u : Vec) : PyData.eqv (dV v) (dV u) = decide (v = u) := by
  rw [dV_eq, dV_eq, PySem.W.Datum.eqv]
  exact decide_eq_decide.mpr tV_inj
theorem eqv_L (v u : Lin) : PyData.eqv (dL v) (dL u) = decide (v = u) := by
  rw [dL_eq, dL_eq, PySem.W.Datum.eqv]
  exact decide_eq_decide.mpr tL_inj
def ltV (v u : Vec) : Bool := PySem.W.listLt v u
def ltL (a b : Lin) : Bool := PySem.W.DatumOrd.lt (tL a) (tL b)
theorem lt_V (v u : Vec) : PySem.W.dataLt (dV v) (dV u) = ltV v u := by
  rw [dV_eq, dV_eq, PySem.W.DatumOrd.lt_eq]
  rfl
theorem lt_L (v u : Lin) : PySem.W.dataLt (dL v) (dL u) = ltL v u := by
  rw [dL_eq, dL_eq, PySem.W.DatumOrd.lt_eq]
  rfl
theorem alike_V (v u : Vec) : PySem.W.alike (dV v) (dV u) = true := by
  rw [dV_eq, dV_eq]
  exact PySem.W.DatumOrd.alike _ _
theorem alike_L (v u : Lin) : PySem.W.alike (dL v) (dL u) = true := by
  rw [dL_eq, dL_eq]
  exact PySem.W.DatumOrd.alike _ _

/-! ### the order is linear -/
structure Lin1 {α : Type} (lt : α → α → Bool) : Prop where
  ir : ∀ a, lt a a = false
  tr : ∀ a b c, lt a b = true → lt b c = true → lt a c = true
  co : ∀ a b, a ≠ b → lt a b = true ∨ lt b a = true
theorem lin_int : Lin1 (fun a b : Int => decide (a < b)) :=
  ⟨fun a => by simp, fun a b c h1 h2 => by simp only [decide_eq_true_eq] at *; omega, fun a b h => by simp only [decide_eq_true_eq]; omega⟩
theorem lin_list {α : Type} [DecidableEq α] [PySem.W.DatumOrd α] (L : Lin1 (PySem.W.DatumOrd.lt (α := α))) : Lin1 (PySem.W.listLt (α := α)) := by
  refine ⟨fun a => ?_, fun a => ?_, fun a => ?_⟩
  · induction a with
    | nil => rfl
    | cons x a ih =>
      rw [PySem.W.listLt, if_pos rfl]
      exact ih
  · induction a with
    | nil =>
      intro b c h1 h2
      cases c with
      | nil =>
        cases b with
        | nil => cases h1
        | cons _ _ => cases h2
      | cons _ _ => rfl
    | cons x a ih =>
      intro b c h1 h2
      cases b with
      | nil => cases h1
      | cons y b =>
        cases c with
        | nil => cases h2
        | cons z c =>
          rw [PySem.W.listLt] at h1 h2 ⊢
          by_cases e1 : x = y
          · subst e1
            rw [if_pos rfl] at h1
            by_cases e2 : x = z
            · rw [if_pos e2] at h2 ⊢
              exact ih b c h1 h2
            · rw [if_neg e2] at h2 ⊢
              exact h2
          · rw [if_neg e1] at h1
            by_cases e2 : y = z
            · subst e2
              rw [if_neg e1]
              exact h1
            · rw [if_neg e2] at h2
              have h3 := L.tr x y z h1 h2
              have e3 : x ≠ z := fun e => by
                rw [e, L.ir] at h3
                cases h3
              rw [if_neg e3]
              exact h3
  · induction a with
    | nil =>
      intro b h
      cases b with
      | nil => exact absurd rfl h
      | cons _ _ => exact .inl rfl
    | cons x a ih =>
      intro b h
      cases b with
      | nil => exact .inr rfl
      | cons y b =>
        rw [PySem.W.listLt, PySem.W.listLt]
        by_cases e : x = y
        · subst e
          rw [if_pos rfl, if_pos rfl]
          exact ih b fun z => h (by rw [z])
        · rw [if_neg e, if_neg (Ne.symm e)]
          exact L.co x y e
theorem lin_tup {α : Type} [DecidableEq α] [PySem.W.DatumOrd α] (L : Lin1 (PySem.W.DatumOrd.lt (α := α))) : Lin1 (PySem.W.DatumOrd.lt (α := PySem.W.Tup α)) := by
  have h := lin_list L
  refine ⟨fun a => h.ir a.items, fun a b c => h.tr a.items b.items c.items, fun a b n => h.co a.items b.items fun e => n ?_⟩
  cases a
  cases b
  simp only at e
  rw [e]
theorem lin_prod {α β : Type} [DecidableEq α] [PySem.W.DatumOrd α] [DecidableEq β] [PySem.W.DatumOrd β] (L : Lin1 (PySem.W.DatumOrd.lt (α := α))) (R : Lin1 (PySem.W.DatumOrd.lt (α := β))) : Lin1 (PySem.W.DatumOrd.lt (α := α × β)) := by
  have df : ∀ p q : α × β, PySem.W.DatumOrd.lt p q = if p.1 = q.1 then PySem.W.DatumOrd.lt p.2 q.2 else PySem.W.DatumOrd.lt p.1 q.1 := fun _ _ => rfl
  refine ⟨fun a => ?_, fun a b c h1 h2 => ?_, fun a b n => ?_⟩
  · rw [df, if_pos rfl]
    exact R.ir _
  · rw [df] at h1 h2 ⊢
    by_cases e1 : a.1 = b.1
    · rw [if_pos e1] at h1
      by_cases e2 : b.1 = c.1
      · rw [if_pos e2] at h2
        rw [if_pos (e1.trans e2)]
        exact R.tr _ _ _ h1 h2
      · rw [if_neg e2] at h2
        rw [e1, if_neg e2]
        exact h2
    · rw [if_neg e1] at h1
      by_cases e2 : b.1 = c.1
      · rw [← e2, if_neg e1]
        exact h1
      · rw [if_neg e2] at h2
        have h3 := L.tr _ _ _ h1 h2
        have e3 : a.1 ≠ c.1 := fun e => by
          rw [e, L.ir] at h3
          cases h3
        rw [if_neg e3]
        exact h3
  · rw [df, df]
    by_cases e : a.1 = b.1
    · rw [if_pos e, if_pos e.symm]
      exact R.co _ _ fun z => n (Prod.ext e z)
    · rw [if_neg e, if_neg (Ne.symm e)]
      exact L.co _ _ e
theorem lin_V : Lin1 ltV := lin_list (α := Int) lin_int
theorem lin_L : Lin1 ltL := by
  have h := lin_prod (lin_tup (α := Int) lin_int) (lin_tup (lin_tup (α := Int) lin_int))
  exact ⟨fun a => h.ir _, fun a b c => h.tr _ _ _, fun a b n => h.co _ _ fun e => n (tL_inj.mp e)⟩

/-! ### sorted lists -/
section
variable {α : Type} {lt : α → α → Bool}
def leB (lt : α → α → Bool) (a b : α) : Bool := !lt b a
theorem le_tr (L : Lin1 lt) (a b c : α) (h1 : leB lt a b = true) (h2 : leB lt b c = true) : leB lt a c = true := by
  unfold leB at *
  rw [Bool.not_eq_true'] at *
  cases h : lt c a with
  | false => rfl
  | true =>
    by_cases e : a = b
    · subst e
      rw [h] at h2
      cases h2
    · rcases L.co a b e with q | q
      · rw [L.tr c a b h q] at h2
        cases h2
      · rw [q] at h1
        cases h1
theorem le_co (L : Lin1 lt) (a b : α) : (leB lt a b || leB lt b a) = true := by
  unfold leB
  cases h1 : lt b a with
  | false => rfl
  | true =>
    cases h2 : lt a b with
    | false => rfl
    | true =>
      have := L.tr a b a h2 h1
      rw [L.ir] at this
      cases this
theorem le_as (L : Lin1 lt) {a b : α} (h1 : leB lt a b = true) (h2 : leB lt b a = true) : a = b := by
  unfold leB at *
  rw [Bool.not_eq_true'] at *
  apply Classical.byContradiction
  intro e
  rcases L.co a b e with q | q
  · rw [q] at h2
    cases h2
  · rw [q] at h1
    cases h1
def srt (lt : α → α → Bool) (l : List α) : List α := l.mergeSort (leB lt)
theorem srt_perm (l : List α) : (srt lt l).Perm l := List.mergeSort_perm l _
theorem srt_sorted (L : Lin1 lt) (l : List α) : (srt lt l).Pairwise fun a b => leB lt a b = true := List.pairwise_mergeSort (le_tr L) (le_co L) l
theorem sorted_unique (L : Lin1 lt) : ∀ {l m : List α}, l.Perm m → (l.Pairwise fun a b => leB lt a b = true) → (m.Pairwise fun a b => leB lt a b = true) → l = m
  | [], m, p, _, _ => by rw [List.nil_perm.mp p]
  | a :: l, m, p, h1, h2 => by
    have hm : a ∈ m := p.mem_iff.mp (by simp)
    cases m with
    | nil => cases hm
    | cons b m =>
      have hb : b ∈ a :: l := p.mem_iff.mpr (by simp)
      rw [List.pairwise_cons] at h1 h2
      have e : a = b := by
        rcases List.mem_cons.mp hm with q | q
        · exact q
        · rcases List.mem_cons.mp hb with r | r
          · exact r.symm
          · exact le_as L (h1.1 b r) (h2.1 a q)
      subst e
      rw [sorted_unique L (List.Perm.cons_inv p) h1.2 h2.2]
theorem srt_of (L : Lin1 lt) {l m : List α} (p : l.Perm m) : srt lt l = srt lt m := sorted_unique L ((srt_perm l).trans (p.trans (srt_perm m).symm)) (srt_sorted L l) (srt_sorted L m)
theorem srt_self (L : Lin1 lt) {l : List α} (h : l.Pairwise fun a b => leB lt a b = true) : srt lt l = l := sorted_unique L (srt_perm l) (srt_sorted L l) h
theorem srt_len (l : List α) : (srt lt l).length = l.length := (srt_perm l).length_eq
theorem srt_mem {l : List α} {a : α} : a ∈ srt lt l ↔ a ∈ l := (srt_perm l).mem_iff
/-- sorted, no two the same: strictly -/
theorem srt_strict (L : Lin1 lt) {l : List α} (h : l.Nodup) : (srt lt l).Pairwise fun a b => lt a b = true := by
  have n : (srt lt l).Nodup := (srt_perm l).nodup_iff.mpr h
  have s := srt_sorted L l
  refine List.Pairwise.imp₂ (fun a b h1 h2 => ?_) s n
  unfold leB at h1
  rw [Bool.not_eq_true'] at h1
  rcases L.co a b h2 with q | q
  · exact q
  · rw [q] at h1
    cases h1
end

/-! ### the first of each -/
section
variable {α : Type} [DecidableEq α]
def ddF (acc : List α) : List α → List α
  | [] => acc
  | x :: l => ddF (if x ∈ acc then acc else acc ++ [x]) l
abbrev dd (l : List α) : List α := ddF [] l
theorem ddF_mem {x : α} : ∀ {l acc : List α}, x ∈ ddF acc l ↔ x ∈ acc ∨ x ∈ l
  | [], acc => by simp [ddF]
  | y :: l, acc => by
    rw [ddF, ddF_mem]
    by_cases h : y ∈ acc
    · rw [if_pos h]
      constructor
      · rintro (q | q)
        · exact .inl q
        · exact .inr (by simp [q])
      · rintro (q | q)
        · exact .inl q
        · rcases List.mem_cons.mp q with e | e
          · exact .inl (e ▸ h)
          · exact .inr e
    · rw [if_neg h]
      simp [or_assoc]
theorem ddF_nodup : ∀ {l acc : List α}, acc.Nodup → (ddF acc l).Nodup
  | [], acc, h => h
  | y :: l, acc, h => by
    rw [ddF]
    refine ddF_nodup ?_
    by_cases q : y ∈ acc
    · rw [if_pos q]; exact h
    · rw [if_neg q, List.nodup_append]
      refine ⟨h, by simp, fun a ha b hb e => ?_⟩
      rw [List.mem_singleton] at hb
      exact q (hb ▸ e ▸ ha)
theorem dd_mem {x : α} {l : List α} : x ∈ dd l ↔ x ∈ l := by simp [dd, ddF_mem]
theorem dd_nodup {l : List α} : (dd l).Nodup := ddF_nodup List.nodup_nil
theorem ddF_len : ∀ {l acc : List α}, (ddF acc l).length ≤ acc.length + l.length
  | [], acc => by simp [ddF]
  | y :: l, acc => by
    rw [ddF]
    refine Nat.le_trans ddF_len ?_
    by_cases q : y ∈ acc
    · rw [if_pos q, List.length_cons]; omega
    · rw [if_neg q]
      simp only [List.length_append, List.length_cons, List.length_nil]
      omega
theorem dd_len {l : List α} : (dd l).length ≤ l.length := by
  have := ddF_len (acc := []) (l := l)
  simpa using this
theorem ddF_self : ∀ {l acc : List α}, (acc ++ l).Nodup → ddF acc l = acc ++ l
  | [], acc, _ => by simp [ddF]
  | y :: l, acc, h => by
    have q : y ∉ acc := fun z => by
      rw [List.nodup_append] at h
      exact h.2.2 y z y (by simp) rfl
    rw [ddF, if_neg q, ddF_self (by simpa using h)]
    simp
theorem dd_self {l : List α} (h : l.Nodup) : dd l = l := by
  have := ddF_self (acc := []) (l := l) (by simpa using h)
  simpa using this
/-- two lists of the same things: the same, sorted -/
theorem sd_of {lt : α → α → Bool} (L : Lin1 lt) {l m : List α} (h : ∀ x, x ∈ l ↔ x ∈ m) : srt lt (dd l) = srt lt (dd m) := by
  refine srt_of L ?_
  rw [List.perm_ext_iff_of_nodup dd_nodup dd_nodup]
  intro a
  rw [dd_mem, dd_mem]
  exact h a
theorem sd_mem {lt : α → α → Bool} {l : List α} {x : α} : x ∈ srt lt (dd l) ↔ x ∈ l := by rw [srt_mem, dd_mem]
end
end Wh

namespace Wh
open PySem PySem.Spec PyProof.Rows L2

/-! ### shapes -/
theorem can_map {α : Type} {d : α → PyData} (h : ∀ a, PyData.canLay0 (d a) = true) : ∀ l : List α, PyData.canLayAll0 (l.map d) = true
  | [] => by simp [PyData.canLayAll0]
  | a :: l => by simp [PyData.canLayAll0, h a, can_map h l]
theorem dep_map {α : Type} {d : α → PyData} {k : Nat} (h : ∀ a, PyData.depth (d a) ≤ k) : ∀ l : List α, PyData.depthAll (l.map d) ≤ k
  | [] => by simp [PyData.depthAll]
  | a :: l => by
    rw [List.map_cons, PyData.depthAll]
    exact Nat.max_le.mpr ⟨h a, dep_map h l⟩
theorem can_V (v : Vec) : PyData.canLay0 (dV v) = true := by
  show PyData.canLay0 (.tuple (v.map .int)) = true
  rw [PyData.canLay0]
  exact can_map (fun a => by simp [PyData.canLay0]) v
theorem dep_V (v : Vec) : PyData.depth (dV v) ≤ 1 := by
  show PyData.depth (.tuple (v.map .int)) ≤ 1
  have := dep_map (k := 0) (d := PyData.int) (fun a => by simp [PyData.depth]) v
  simp only [PyData.depth]
  omega
theorem can_L (l : Lin) : PyData.canLay0 (dL l) = true := by
  have h := can_map can_V l.2
  simp [dL, PyData.canLay0, PyData.canLayAll0, can_V, h]
theorem dep_L (l : Lin) : PyData.depth (dL l) ≤ 3 := by
  have h := dep_map dep_V l.2
  have h1 := dep_V l.1
  simp only [dL, PyData.depth, PyData.depthAll]
  omega
theorem sh_of {d : PyData} (h : PyData.canLay0 d = true) (h2 : PyData.depth d ≤ 64) : SeqAt.shaped d = true := by
  unfold SeqAt.shaped
  rw [Bool.and_eq_true]
  exact ⟨h, decide_eq_true h2⟩

/-! ### keys -/
theorem keysOf_ints : ∀ {v u : Vec}, keysOf (v.map .int) = keysOf (u.map .int) → v = u
  | [], [], _ => rfl
  | [], _ :: _, h => by cases h
  | _ :: _, [], h => by cases h
  | a :: v, b :: u, h => by
    have h' : NestedKey.num a :: keysOf (v.map .int) = NestedKey.num b :: keysOf (u.map .int) := h
    rw [List.cons.injEq] at h'
    have e1 : a = b := by
      have := h'.1
      injection this
    rw [e1, keysOf_ints h'.2]
theorem key_V {v u : Vec} (h : keyOf (dV v) = keyOf (dV u)) : v = u := by
  have h' : NestedKey.tup (keysOf (v.map .int)) = NestedKey.tup (keysOf (u.map .int)) := h
  injection h' with h'
  exact keysOf_ints h'
theorem keysOf_V : ∀ {a b : List Vec}, keysOf (a.map dV) = keysOf (b.map dV) → a = b
  | [], [], _ => rfl
  | [], _ :: _, h => by cases h
  | _ :: _, [], h => by cases h
  | x :: a, y :: b, h => by
    have h' : keyOf (dV x) :: keysOf (a.map dV) = keyOf (dV y) :: keysOf (b.map dV) := h
    rw [List.cons.injEq] at h'
    rw [key_V h'.1, keysOf_V h'.2]
theorem key_L {v u : Lin} (h : keyOf (dL v) = keyOf (dL u)) : v = u := by
  have h' : NestedKey.tup [keyOf (dV v.1), .tup (keysOf (v.2.map dV))] = NestedKey.tup [keyOf (dV u.1), .tup (keysOf (u.2.map dV))] := h
  injection h' with h'
  rw [List.cons.injEq, List.cons.injEq] at h'
  have h2 := h'.2.1
  injection h2 with h2
  exact Prod.ext (key_V h'.1) (keysOf_V h2)
theorem keyables_map {α : Type} {d : α → PyData} (h : ∀ a, keyable (d a) = true) : ∀ l : List α, keyables (l.map d) = true
  | [] => rfl
  | a :: l => by
    show (keyable (d a) && keyables (l.map d)) = true
    rw [h a, keyables_map h l]
    rfl
theorem kdep_map {α : Type} {d : α → PyData} {k : Nat} (h : ∀ a, (keyOf (d a)).depth ≤ k) : ∀ l : List α, NestedKey.depthAll (keysOf (l.map d)) ≤ k
  | [] => Nat.zero_le _
  | a :: l => by
    show max (keyOf (d a)).depth (NestedKey.depthAll (keysOf (l.map d))) ≤ k
    exact Nat.max_le.mpr ⟨h a, kdep_map h l⟩
theorem kb_V (v : Vec) : keyable (dV v) = true := keyables_map (d := PyData.int) (fun _ => rfl) v
theorem kd_V (v : Vec) : (keyOf (dV v)).depth ≤ 1 := by
  have h := kdep_map (k := 0) (d := PyData.int) (fun _ => Nat.le_refl 0) v
  show NestedKey.depthAll (keysOf (v.map .int)) + 1 ≤ 1
  omega
theorem fit_V (v : Vec) : keyFit (dV v) = true := by
  unfold keyFit
  rw [Bool.and_eq_true, Bool.and_eq_true]
  exact ⟨⟨rfl, kb_V v⟩, decide_eq_true (by have := kd_V v; omega)⟩
theorem fit_L (l : Lin) : keyFit (dL l) = true := by
  unfold keyFit
  rw [Bool.and_eq_true, Bool.and_eq_true]
  refine ⟨⟨rfl, ?_⟩, decide_eq_true ?_⟩
  · show (keyable (dV l.1) && (keyables (l.2.map dV) && true)) = true
    rw [kb_V, keyables_map kb_V]
    rfl
  · have h1 := kd_V l.1
    have h2 := kdep_map kd_V l.2
    show max (keyOf (dV l.1)).depth (max (NestedKey.depthAll (keysOf (l.2.map dV)) + 1) 0) + 1 ≤ 8
    omega

/-! ### what both kinds keep -/
structure Enc {α : Type} [DecidableEq α] (d : α → PyData) (lt : α → α → Bool) (ok : α → Prop) : Prop where
  eqv : ∀ a b, PyData.eqv (d a) (d b) = decide (a = b)
  lt_ : ∀ a b, PySem.W.dataLt (d a) (d b) = lt a b
  al : ∀ a b, PySem.W.alike (d a) (d b) = true
  tup : ∀ a, ok a → ∃ x xs, d a = .tuple (x :: xs)
  can : ∀ a, PyData.canLay0 (d a) = true
  dep : ∀ a, PyData.depth (d a) ≤ 3
  key : ∀ a b, keyOf (d a) = keyOf (d b) → a = b
  fit : ∀ a, keyFit (d a) = true
  lin : Lin1 lt
theorem encV : Enc dV ltV (fun v => v ≠ []) where
  eqv := eqv_V
  lt_ := lt_V
  al := alike_V
  tup := fun a h => by
    cases a with
    | nil => exact absurd rfl h
    | cons x a => exact ⟨_, _, rfl⟩
  can := can_V
  dep := fun a => Nat.le_trans (dep_V a) (by decide)
  key := fun _ _ => key_V
  fit := fit_V
  lin := lin_V
theorem encL : Enc dL ltL (fun _ => True) where
  eqv := eqv_L
  lt_ := lt_L
  al := alike_L
  tup := fun a _ => ⟨_, _, rfl⟩
  can := can_L
  dep := dep_L
  key := fun _ _ => key_L
  fit := fit_L
  lin := lin_L
section
variable {α : Type} [DecidableEq α] {d : α → PyData} {lt : α → α → Bool} {ok : α → Prop}
theorem Enc.inj (N : Enc d lt ok) {a b : α} (h : d a = d b) : a = b := N.key a b (by rw [h])
theorem Enc.sh (N : Enc d lt ok) (a : α) : SeqAt.shaped (d a) = true := sh_of (N.can a) (Nat.le_trans (N.dep a) (by decide))
theorem Enc.shL (N : Enc d lt ok) (l : List α) : SeqAt.shaped (.list (l.map d)) = true := by
  refine sh_of ?_ ?_
  · rw [PyData.canLay0]; exact can_map N.can l
  · have := dep_map N.dep l
    simp only [PyData.depth]
    omega
theorem Enc.shT (N : Enc d lt ok) (l : List α) : SeqAt.shaped (.tuple (l.map d)) = true := by
  refine sh_of ?_ ?_
  · rw [PyData.canLay0]; exact can_map N.can l
  · have := dep_map N.dep l
    simp only [PyData.depth]
    omega
theorem Enc.sort (N : Enc d lt ok) (l : List α) : sortD (l.map d) = (srt lt l).map d := by
  unfold sortD srt
  rw [List.map_mergeSort]
  intro a _ b _
  show leB lt a b = (!PySem.W.dataLt (d b) (d a))
  rw [N.lt_]
  rfl
theorem Enc.okB (N : Enc d lt ok) {l : List α} (h : ∀ a ∈ l, ok a) : okB (l.map d) = true := by
  unfold Wh.okB
  rw [Bool.and_eq_true]
  refine ⟨List.all_eq_true.mpr fun x hx => List.all_eq_true.mpr fun y hy => ?_, List.all_eq_true.mpr fun x hx => ?_⟩
  · obtain ⟨a, _, rfl⟩ := List.mem_map.mp hx
    obtain ⟨b, _, rfl⟩ := List.mem_map.mp hy
    exact N.al a b
  · obtain ⟨a, ha, rfl⟩ := List.mem_map.mp hx
    obtain ⟨x, xs, e⟩ := N.tup a (h a ha)
    have s := N.sh a
    rw [e] at s ⊢
    exact s
theorem Enc.sortL (N : Enc d lt ok) {l : List α} (h : ∀ a ∈ l, ok a) (hz : l.length ≤ sizeLine) (w : LS) : sortedD [.list (l.map d)] w = .ok (.list ((srt lt l).map d)) w := by
  show (if Wh.okB (l.map d) = true ∧ (l.map d).length ≤ sizeLine then pure (.list (sortD (l.map d))) else M.no : M PyData) w = _
  rw [if_pos ⟨N.okB h, by rw [List.length_map]; exact hz⟩, N.sort]
  rfl
theorem Enc.sortK (N : Enc d lt ok) {l : List α} (h : ∀ a ∈ l, ok a) (w : LS) : sortedD [dkD (l.map d)] w = .ok (.list ((srt lt l).map d)) w := by
  have e1 : ((l.map d).map fun x => (x, PyData.bool true)).map Prod.fst = l.map d := by rw [List.map_map]; exact List.map_id' _
  show (if Wh.okB (((l.map d).map fun x => (x, PyData.bool true)).map Prod.fst) = true then pure (.list (sortD (((l.map d).map fun x => (x, PyData.bool true)).map Prod.fst))) else M.no : M PyData) w = _
  rw [e1, if_pos (N.okB h), N.sort]
  rfl
theorem Enc.kHas (N : Enc d lt ok) (l : List α) (a : α) : kHas (l.map d) (d a) = decide (a ∈ l) := by
  rw [Bool.eq_iff_iff, kHas_mem, decide_eq_true_eq, List.map_map, List.mem_map]
  constructor
  · rintro ⟨b, hb, e⟩
    rw [N.key b a e] at hb
    exact hb
  · intro h
    exact ⟨a, h, rfl⟩
theorem Enc.any (N : Enc d lt ok) (l : List α) (a : α) : ((l.map d).any fun z => PyData.eqv z (d a)) = decide (a ∈ l) := by
  rw [Bool.eq_iff_iff, List.any_eq_true, decide_eq_true_eq]
  constructor
  · rintro ⟨x, hx, e⟩
    obtain ⟨b, hb, rfl⟩ := List.mem_map.mp hx
    rw [N.eqv, decide_eq_true_eq] at e
    rw [← e]
    exact hb
  · intro h
    exact ⟨d a, List.mem_map.mpr ⟨a, h, rfl⟩, by rw [N.eqv]; exact decide_eq_true rfl⟩
theorem Enc.in_ (N : Enc d lt ok) (neg : Bool) (l : List α) (a : α) (w : LS) : isInD neg (d a) (.list (l.map d)) w = .ok (.bool (if neg then !decide (a ∈ l) else decide (a ∈ l))) w := by
  show (if SeqAt.shaped (d a) = true ∧ SeqAt.shaped (.list (l.map d)) = true then pure (.bool (if neg then !(l.map d).any fun z => PyData.eqv z (d a) else (l.map d).any fun z => PyData.eqv z (d a))) else M.no : M PyData) w = _
  rw [if_pos ⟨N.sh a, N.shL l⟩, N.any]
  rfl
theorem Enc.lt1 (N : Enc d lt ok) (a b : α) (h : ok a ∨ ∃ xs, d a = .tuple xs) (h' : ∃ xs, d b = .tuple xs) (w : LS) : ltTD (d a) (d b) w = .ok (.bool (lt a b)) w := by
  have ha : ∃ xs, d a = .tuple xs := by
    rcases h with h | h
    · obtain ⟨x, xs, e⟩ := N.tup a h
      exact ⟨_, e⟩
    · exact h
  obtain ⟨xs, e1⟩ := ha
  obtain ⟨ys, e2⟩ := h'
  have s1 := N.sh a
  have s2 := N.sh b
  have al := N.al a b
  have l := N.lt_ a b
  rw [e1, e2] at al l
  rw [e1] at s1
  rw [e2] at s2
  rw [e1, e2]
  show (if PySem.W.alike (.tuple xs) (.tuple ys) = true ∧ SeqAt.shaped (.tuple xs) = true ∧ SeqAt.shaped (.tuple ys) = true then pure (.bool (PySem.W.dataLt (.tuple xs) (.tuple ys))) else M.no : M PyData) w = _
  rw [if_pos ⟨al, s1, s2⟩, l]
  rfl
end
end Wh

namespace Wh
open PySem PySem.Spec PyProof.Rows L2

/-! ### steps -/
theorem calm_eq {α : Type} (m : M α) (w : LS) : M.calm m w = match m w with
  | .ok a w' => .ok a w'
  | _ => .no := rfl
theorem seq_w (m1 m2 : Ev → M Fl) (ρ : Ev) (w : LS) : seqM m1 m2 ρ w = match m1 ρ w with
  | .ok (.nx ρ') w' => m2 ρ' w'
  | .ok (.rt d) w' => .ok (.rt d) w'
  | .er c d w' => .er c d w'
  | .no => .no := by
  show M.bind (m1 ρ) _ w = _
  unfold M.bind
  cases m1 ρ w with
  | ok r w' => cases r <;> rfl
  | er c d w' => rfl
  | no => rfl
theorem iff_w (g : Ev → M Bool) (m1 m2 : Ev → M Fl) (ρ : Ev) (w : LS) : iffM g m1 m2 ρ w = match g ρ w with
  | .ok true w' => m1 ρ w'
  | .ok false w' => m2 ρ w'
  | .er c d w' => .er c d w'
  | .no => .no := by
  show M.bind (g ρ) _ w = _
  unfold M.bind
  cases g ρ w with
  | ok r w' => cases r <;> rfl
  | er c d w' => rfl
  | no => rfl
theorem body_w (n : Nat) (m : Ev → M Fl) (as : List Sl) (w : LS) : bodyM n m as w = match m (entM as n) w with
  | .ok (.nx _) w' => .ok .none w'
  | .ok (.rt d) w' => .ok d w'
  | .er c d w' => .er c d w'
  | .no => .no := by
  show M.bind (m (entM as n)) _ w = _
  unfold M.bind
  cases m (entM as n) w with
  | ok r w' => cases r <;> rfl
  | er c d w' => rfl
  | no => rfl
theorem test_w (f : Ev → M PyData) (ρ : Ev) (w : LS) : testM f ρ w = match f ρ w with
  | .ok (.bool b) w' => .ok b w'
  | .ok _ w' => .no
  | .er c d w' => .er c d w'
  | .no => .no := by
  show M.bind (f ρ) boolM w = _
  unfold M.bind
  cases f ρ w with
  | ok r w' => cases r <;> rfl
  | er c d w' => rfl
  | no => rfl
theorem op_w (g : PyData → PyData → M PyData) (fa fb : Ev → M PyData) (ρ : Ev) (w : LS) : opM g fa fb ρ w = match fa ρ w with
  | .ok x w1 => (match fb ρ w1 with
    | .ok y w2 => g x y w2
    | .er c d w' => .er c d w'
    | .no => .no)
  | .er c d w' => .er c d w'
  | .no => .no := by
  unfold opM
  rw [bind_w]
  cases fa ρ w with
  | ok x w1 =>
    simp only [bind_w]
    cases fb ρ w1 <;> rfl
  | er c d w' => rfl
  | no => rfl
theorem not_w (f : Ev → M Bool) (ρ : Ev) (w : LS) : notM f ρ w = match f ρ w with
  | .ok b w' => .ok (!b) w'
  | .er c d w' => .er c d w'
  | .no => .no := by
  unfold notM
  rw [bind_w]
  cases f ρ w <;> rfl
theorem or_w (f g : Ev → M Bool) (ρ : Ev) (w : LS) : orM f g ρ w = match f ρ w with
  | .ok true w' => .ok true w'
  | .ok false w' => g ρ w'
  | .er c d w' => .er c d w'
  | .no => .no := by
  show M.bind (f ρ) _ w = _
  unfold M.bind
  cases f ρ w with
  | ok r w' => cases r <;> rfl
  | er c d w' => rfl
  | no => rfl
theorem and_w (f g : Ev → M Bool) (ρ : Ev) (w : LS) : andM f g ρ w = match f ρ w with
  | .ok true w' => g ρ w'
  | .ok false w' => .ok false w'
  | .er c d w' => .er c d w'
  | .no => .no := by
  show M.bind (f ρ) _ w = _
  unfold M.bind
  cases f ρ w with
  | ok r w' => cases r <;> rfl
  | er c d w' => rfl
  | no => rfl
theorem set_w (i : Nat) (f : Ev → M PyData) (ρ : Ev) (w : LS) : setM i f ρ w = match f ρ w with
  | .ok d w' => .ok (.nx (ρ.set i (.fz d))) w'
  | .er c d w' => .er c d w'
  | .no => .no := by
  unfold setM
  rw [bind_w]
  cases f ρ w <;> rfl
theorem ret_w (f : Ev → M PyData) (ρ : Ev) (w : LS) : retM f ρ w = match f ρ w with
  | .ok d w' => .ok (.rt d) w'
  | .er c d w' => .er c d w'
  | .no => .no := by
  unfold retM
  rw [bind_w]
  cases f ρ w <;> rfl
theorem raise_w' (k : Cl) (f : Ev → M PyData) (ρ : Ev) (w : LS) : raiseM k f ρ w = match f ρ w with
  | .ok d w' => .er k d w'
  | .er c d w' => .er c d w'
  | .no => .no := by
  unfold raiseM
  rw [bind_w]
  cases f ρ w <;> rfl
theorem skip_w (ρ : Ev) (w : LS) : skipM ρ w = .ok (.nx ρ) w := rfl
theorem for_w (g : PyData → Ev → Option Ev) (fI : Ev → M (List PyData)) (b : Ev → M Fl) (ρ : Ev) (w : LS) : forM g fI b ρ w = match fI ρ w with
  | .ok ds w' => forL g b ds ρ w'
  | .er c d w' => .er c d w'
  | .no => .no := by
  unfold forM
  rw [bind_w]
  cases fI ρ w <;> rfl
theorem call_w (g : List PyData → M PyData) (fs : Ev → M (List PyData)) (ρ : Ev) (w : LS) : callM g fs ρ w = match fs ρ w with
  | .ok ds w' => g ds w'
  | .er c d w' => .er c d w'
  | .no => .no := by
  unfold callM
  rw [bind_w]
  cases fs ρ w <;> rfl
theorem def_w (F : List Sl → M PyData) (fA : Ev → M (List Sl)) (ρ : Ev) (w : LS) : defM F fA ρ w = match fA ρ w with
  | .ok as w' => F as w'
  | .er c d w' => .er c d w'
  | .no => .no := by
  unfold defM
  rw [bind_w]
  cases fA ρ w <;> rfl
theorem len_w (n : Nat) (F : List Sl → M PyData) (as : List Sl) (w : LS) : lenM n F as w = if as.length = n then F as w else .no := by
  unfold lenM
  split <;> rfl
theorem lcons_w (f : Ev → M PyData) (fs : Ev → M (List PyData)) (ρ : Ev) (w : LS) : lCons f fs ρ w = match f ρ w with
  | .ok d w1 => (match fs ρ w1 with
    | .ok ds w2 => .ok (d :: ds) w2
    | .er c d w' => .er c d w'
    | .no => .no)
  | .er c d w' => .er c d w'
  | .no => .no := by
  unfold lCons
  rw [bind_w]
  cases f ρ w with
  | ok x w1 =>
    simp only [bind_w]
    cases fs ρ w1 <;> rfl
  | er c d w' => rfl
  | no => rfl
theorem lnil_w (ρ : Ev) (w : LS) : lNil ρ w = .ok [] w := rfl
theorem acons_w (f : Ev → M PyData) (fs : Ev → M (List Sl)) (ρ : Ev) (w : LS) : aCons f fs ρ w = match f ρ w with
  | .ok d w1 => (match fs ρ w1 with
    | .ok ds w2 => .ok (.fz d :: ds) w2
    | .er c d w' => .er c d w'
    | .no => .no)
  | .er c d w' => .er c d w'
  | .no => .no := by
  unfold aCons
  rw [bind_w]
  cases f ρ w with
  | ok x w1 =>
    simp only [bind_w]
    cases fs ρ w1 <;> rfl
  | er c d w' => rfl
  | no => rfl
theorem anil_w (ρ : Ev) (w : LS) : aNil ρ w = .ok [] w := rfl
theorem var_w (i : Nat) (ρ : Ev) (w : LS) : varM i ρ w = match ρ[i]? with
  | some (.fz d) => .ok d w
  | _ => .no := by
  unfold varM
  cases ρ[i]? with
  | none => rfl
  | some x => cases x <;> rfl
theorem kI_w (i : Int) (ρ : Ev) (w : LS) : kI i ρ w = .ok (.int i) w := rfl
theorem kT_w (i : Bool) (ρ : Ev) (w : LS) : kT i ρ w = .ok (.bool i) w := rfl
theorem kN_w (ρ : Ev) (w : LS) : kN ρ w = .ok .none w := rfl
theorem kS_w (x : Str) (ρ : Ev) (w : LS) : kS x ρ w = .ok (.str x) w := rfl
theorem tup_w (fs : Ev → M (List PyData)) (ρ : Ev) (w : LS) : tupM fs ρ w = match fs ρ w with
  | .ok ds w' => if ds.length ≤ sizeLine then .ok (.tuple ds) w' else .no
  | .er c d w' => .er c d w'
  | .no => .no := by
  show M.bind (fs ρ) _ w = _
  unfold M.bind
  cases fs ρ w with
  | ok ds w' =>
    show (if ds.length ≤ sizeLine then pure (.tuple ds) else M.no : M PyData) w' = _
    by_cases h : ds.length ≤ sizeLine
    · simp only [if_pos h]
      rfl
    · simp only [if_neg h]
      rfl
  | er c d w' => rfl
  | no => rfl
theorem lst_w (fs : Ev → M (List PyData)) (ρ : Ev) (w : LS) : lstM fs ρ w = match fs ρ w with
  | .ok ds w' => if ds.length ≤ sizeLine then .ok (.list ds) w' else .no
  | .er c d w' => .er c d w'
  | .no => .no := by
  show M.bind (fs ρ) _ w = _
  unfold M.bind
  cases fs ρ w with
  | ok ds w' =>
    show (if ds.length ≤ sizeLine then pure (.list ds) else M.no : M PyData) w' = _
    by_cases h : ds.length ≤ sizeLine
    · simp only [if_pos h]
      rfl
    · simp only [if_neg h]
      rfl
  | er c d w' => rfl
  | no => rfl
theorem it_w (g : PyData → M (List PyData)) (f : Ev → M PyData) (ρ : Ev) (w : LS) : itM g f ρ w = match f ρ w with
  | .ok d w' => g d w'
  | .er c d w' => .er c d w'
  | .no => .no := by
  unfold itM
  rw [bind_w]
  cases f ρ w <;> rfl
theorem asg_w (g : PyData → Ev → Option Ev) (f : Ev → M PyData) (ρ : Ev) (w : LS) : asgM g f ρ w = match f ρ w with
  | .ok d w' => (match g d ρ with
    | some ρ' => .ok (.nx ρ') w'
    | none => .no)
  | .er c d w' => .er c d w'
  | .no => .no := by
  show M.bind (f ρ) _ w = _
  unfold M.bind
  cases f ρ w with
  | ok d w' =>
    simp only
    cases g d ρ <;> rfl
  | er c d w' => rfl
  | no => rfl
theorem isi_w (n : String) (f : Ev → M PyData) (ρ : Ev) (w : LS) : isiM n f ρ w = match f ρ w with
  | .ok d w' => (match isiB n d with
    | some b => .ok (.bool b) w'
    | none => .no)
  | .er c d w' => .er c d w'
  | .no => .no := by
  show M.bind (f ρ) _ w = _
  unfold M.bind
  cases f ρ w with
  | ok d w' =>
    simp only
    cases isiB n d <;> rfl
  | er c d w' => rfl
  | no => rfl
theorem andV_w (f g : Ev → M PyData) (ρ : Ev) (w : LS) : andV f g ρ w = match f ρ w with
  | .ok (.bool true) w' => g ρ w'
  | .ok (.bool false) w' => .ok (.bool false) w'
  | .ok _ _ => .no
  | .er c d w' => .er c d w'
  | .no => .no := by
  show M.bind (f ρ) _ w = _
  unfold M.bind
  cases f ρ w with
  | ok d w' =>
    cases d with
    | bool b => cases b <;> rfl
    | _ => rfl
  | er c d w' => rfl
  | no => rfl
theorem orV_w (f g : Ev → M PyData) (ρ : Ev) (w : LS) : orV f g ρ w = match f ρ w with
  | .ok (.bool true) w' => .ok (.bool true) w'
  | .ok (.bool false) w' => g ρ w'
  | .ok _ _ => .no
  | .er c d w' => .er c d w'
  | .no => .no := by
  show M.bind (f ρ) _ w = _
  unfold M.bind
  cases f ρ w with
  | ok d w' =>
    cases d with
    | bool b => cases b <;> rfl
    | _ => rfl
  | er c d w' => rfl
  | no => rfl
theorem notV_w (f : Ev → M PyData) (ρ : Ev) (w : LS) : notV f ρ w = match f ρ w with
  | .ok (.bool b) w' => .ok (.bool (!b)) w'
  | .ok _ _ => .no
  | .er c d w' => .er c d w'
  | .no => .no := by
  show M.bind (f ρ) _ w = _
  unfold M.bind
  cases f ρ w with
  | ok d w' => cases d <;> rfl
  | er c d w' => rfl
  | no => rfl
theorem chain_ii {fa fb fc : Ev → M PyData} {ρ : Ev} {w : LS} {a b c : Int} (h1 : fa ρ w = .ok (.int a) w) (h2 : fb ρ w = .ok (.int b) w) (h3 : fc ρ w = .ok (.int c) w) :
    chainM leD leD fa fb fc ρ w = .ok (.bool (decide (a ≤ b) && decide (b ≤ c))) w := by
  unfold chainM
  rw [bk h1, bk h2, bk (show leD (.int a) (.int b) w = .ok (.bool (decide (a ≤ b))) w from rfl), bk (show boolM (.bool (decide (a ≤ b))) w = .ok (decide (a ≤ b)) w from rfl)]
  cases decide (a ≤ b) with
  | true =>
    rw [if_pos rfl, bk h3]
    rfl
  | false => rfl
/-! ### the first defs -/
theorem is_ii (i : Int) : isiB "int" (.int i) = some true := rfl
theorem is_bi (i : Int) : isiB "bool" (.int i) = some false := rfl
theorem is_tt (l : List PyData) : isiB "tuple" (.tuple l) = some true := rfl
theorem is_tn : isiB "tuple" .none = some false := rfl
theorem t_is_from (i lo hi : Int) (w : LS) : F_is_from [.fz (.int i), .fz (.int lo), .fz (.int hi)] w = .ok (.bool (decide (lo ≤ i) && decide (i ≤ hi))) w := by
  have c := chain_ii (fa := varM 1) (fb := varM 0) (fc := varM 2) (ρ := [.fz (.int i), .fz (.int lo), .fz (.int hi)]) (w := w) (a := lo) (b := i) (c := hi) rfl rfl rfl
  simp [F_is_from, m_is_from, body_w, entM, ret_w, andV_w, isi_w, var_w, notV_w, is_ii, is_bi, c]
/-- 0 <= .. <= 10^9, all of it -/
def okN (i : Int) : Bool := decide (0 ≤ i) && decide (i ≤ 1000000000)
theorem t_vec_loop (n : Int) (ds : PyData) (w : LS) : ∀ (v : Vec) (x : Sl), (∀ i ∈ v, okN i = true) → ∃ y, forL (tgN 2) (iffM (notM (testM (defM (lenM 3 F_is_from) (aCons (varM 2) (aCons (kI 0) (aCons (kI 1000000000) aNil)))))) (retM (kT false)) skipM) (v.map .int) [.fz (.int n), .fz ds, x] w = .ok (.nx [.fz (.int n), .fz ds, y]) w
  | [], x, _ => ⟨x, rfl⟩
  | i :: v, x, h => by
    obtain ⟨y, hy⟩ := t_vec_loop n ds w v (.fz (.int i)) fun j hj => h j (List.mem_cons_of_mem _ hj)
    have hi := h i (by simp)
    unfold okN at hi
    refine ⟨y, ?_⟩
    simp [forL, tgN, bind_w, iff_w, not_w, test_w, def_w, len_w, acons_w, anil_w, var_w, kI_w, t_is_from, hi, skip_w, hy]
theorem t_is_vector {n : Nat} {v : Vec} (w : LS) (hn : v.length = n) (h : ∀ i ∈ v, okN i = true) : F_is_vector [.fz (.int n), .fz (dV v)] w = .ok (.bool true) w := by
  obtain ⟨y, hy⟩ := t_vec_loop n (dV v) w v .un h
  have hl : len1 (dV v) = pure (.int (v.length : Nat)) := by
    show (pure (.int ((v.map PyData.int).length : Nat)) : M PyData) = _
    rw [List.length_map]
  have ht : tupleM (dV v) = pure (v.map .int) := rfl
  have hne : neD (.int (v.length : Nat)) (.int n) w = .ok (.bool false) w := by
    subst hn
    simp [neD, eqvD, SeqAt.shaped, PyData.canLay0, PyData.depth, PyData.eqv, pure_w]
  have ii : isiB "tuple" (dV v) = some true := rfl
  simp [F_is_vector, m_is_vector, body_w, entM, seq_w, iff_w, or_w, not_w, test_w, isi_w, var_w, op_w, call_w, lcons_w, lnil_w, lenD, one1, hl, pure_w, hne, ii, skip_w, for_w, it_w, ht, hy, ret_w, kT_w]
end Wh

namespace Wh
open PySem PySem.Spec PyProof.Rows L2

/-! ### valid lines, valid sets -/
def okV (n : Nat) (v : Vec) : Prop := v.length = n ∧ ∀ i ∈ v, okN i = true
def zer (n : Nat) : Vec := List.replicate n 0
structure OkL (n : Nat) (l : Lin) : Prop where
  b : okV n l.1
  k : l.2.length ≤ 12
  p : ∀ v ∈ l.2, okV n v
  c : (zer n :: l.2).Pairwise fun a b => ltV a b = true
def dS (n : Nat) (ls : List Lin) : PyData := .tuple [.int n, .tuple (ls.map dL)]
structure OkS (n : Nat) (ls : List Lin) : Prop where
  n1 : 1 ≤ n
  n4 : n ≤ 4
  k : ls.length ≤ 400
  l : ∀ x ∈ ls, OkL n x
  c : ls.Pairwise fun a b => ltL a b = true
theorem flat1 {α : Type} (x : α) : ∀ n : Nat, (List.replicate n [x]).flatten = List.replicate n x
  | 0 => rfl
  | n + 1 => by rw [List.replicate_succ, List.flatten_cons, flat1 x n]; rfl
theorem zer_d (n : Nat) : dV (zer n) = .tuple (List.replicate n (.int 0)) := by
  show PyData.tuple ((List.replicate n (0 : Int)).map PyData.int) = _
  rw [List.map_replicate]
theorem mul_zer {n : Nat} (h1 : 1 ≤ n) (h4 : n ≤ 1000) (w : LS) : mulD (.tuple [.int 0]) (.int n) w = .ok (dV (zer n)) w := by
  show (if [PyData.int 0] ≠ [] ∧ [PyData.int 0].length ≤ 1000 ∧ 1 ≤ (n : Int) ∧ (n : Int) ≤ 1000 then pure (.tuple (List.replicate (n : Int).toNat [PyData.int 0]).flatten) else M.no : M PyData) w = _
  rw [if_pos ⟨by simp, by decide, by omega, by omega⟩, flat1, zer_d]
  rfl
theorem len_T (l : List PyData) (w : LS) : len1 (.tuple l) w = .ok (.int (l.length : Nat)) w := rfl
theorem ne_ii (a b : Int) (w : LS) : neD (.int a) (.int b) w = .ok (.bool (!decide (a = b))) w := by
  have e : (a == b) = decide (a = b) := by
    by_cases h : a = b <;> simp [h]
  simp [neD, eqvD, SeqAt.shaped, PyData.canLay0, PyData.depth, PyData.eqv, pure_w, e]
theorem eq_ii (a b : Int) (w : LS) : eqD (.int a) (.int b) w = .ok (.bool (decide (a = b))) w := by
  have e : (a == b) = decide (a = b) := by
    by_cases h : a = b <;> simp [h]
  simp [eqD, eqvD, SeqAt.shaped, PyData.canLay0, PyData.depth, PyData.eqv, pure_w, e]
theorem gt_ii (a b : Int) (w : LS) : gtD (.int a) (.int b) w = .ok (.bool (decide (b < a))) w := rfl
theorem lt_VV (a b : Vec) (w : LS) : ltTD (dV a) (dV b) w = .ok (.bool (ltV a b)) w := encV.lt1 a b (.inr ⟨_, rfl⟩) ⟨_, rfl⟩ w
theorem lt_LL (a b : Lin) (w : LS) : ltTD (dL a) (dL b) w = .ok (.bool (ltL a b)) w := encL.lt1 a b (.inr ⟨_, rfl⟩) ⟨_, rfl⟩ w
theorem ix0 (a b : PyData) (w : LS) : ixD (.tuple [a, b]) (.int 0) w = .ok a w := rfl
theorem ix1 (a b : PyData) (w : LS) : ixD (.tuple [a, b]) (.int 1) w = .ok b w := rfl
theorem lenD_w (d : PyData) (w : LS) : lenD [d] w = len1 d w := rfl
theorem t_line_loop (n : Nat) (d : PyData) (w : LS) : ∀ (ps : List Vec) (last : Vec) (x : Sl), (last :: ps).Pairwise (fun a b => ltV a b = true) → (∀ v ∈ ps, okV n v) →
    ∃ y z, forL (tgN 3) (seqM (iffM (orM (notM (testM (defM (lenM 2 F_is_vector) (aCons (varM 0) (aCons (varM 3) aNil))))) (notM (testM (opM ltTD (varM 2) (varM 3))))) (retM (kT false)) skipM) (setM 2 (varM 3))) (ps.map dV) [.fz (.int n), .fz d, .fz (dV last), x] w = .ok (.nx [.fz (.int n), .fz d, y, z]) w
  | [], last, x, _, _ => ⟨_, _, rfl⟩
  | p :: ps, last, x, h, hv => by
    rw [List.pairwise_cons] at h
    obtain ⟨y, z, e⟩ := t_line_loop n d w ps p (.fz (dV p)) h.2 fun v hm => hv v (List.mem_cons_of_mem _ hm)
    have hp := hv p (by simp)
    have h1 := t_is_vector w hp.1 hp.2
    have h2 := h.1 p (by simp)
    refine ⟨y, z, ?_⟩
    simp [forL, tgN, bind_w, seq_w, iff_w, or_w, not_w, test_w, def_w, len_w, acons_w, anil_w, var_w, h1, op_w, lt_VV, h2, skip_w, set_w, e]
theorem t_is_line {n : Nat} {l : Lin} (w : LS) (h1 : 1 ≤ n) (h4 : n ≤ 4) (h : OkL n l) : F_is_line [.fz (.int n), .fz (dL l)] w = .ok (.bool true) w := by
  obtain ⟨y, z, e⟩ := t_line_loop n (dL l) w l.2 (zer n) .un h.c h.p
  have hv := t_is_vector w h.b.1 h.b.2
  have ii : isiB "tuple" (dL l) = some true := rfl
  have i0 : ixD (dL l) (.int 0) w = .ok (dV l.1) w := rfl
  have i1 : ixD (dL l) (.int 1) w = .ok (.tuple (l.2.map dV)) w := rfl
  have hl : len1 (dL l) w = .ok (.int 2) w := rfl
  have hk : ¬ (12 : Int) < (l.2.length : Int) := by have := h.k; omega
  have mz := mul_zer h1 (by omega : n ≤ 1000) w
  have s1 : (1 : Nat) ≤ sizeLine := by decide
  have tm : ∀ ds, tupleM (.tuple ds) = pure ds := fun _ => rfl
  simp [F_is_line, m_is_line, body_w, entM, seq_w, iff_w, or_w, not_w, test_w, isi_w, var_w, ii, op_w, call_w, lcons_w, lnil_w, lenD_w, hl, kI_w, ne_ii, def_w, len_w, acons_w, anil_w, i0, hv, skip_w, i1, is_tt, len_T, gt_ii, hk, set_w, tup_w, s1, mz, for_w, it_w, tm, pure_w, e, ret_w, kT_w]
abbrev needBody : Ev → M Fl := seqM (iffM (orM (notM (testM (defM (lenM 2 F_is_line) (aCons (varM 1) (aCons (varM 5) aNil))))) (andM (testM (opM (isND true) (varM 3) kN)) (notM (testM (opM ltTD (varM 3) (varM 5)))))) (raiseM .bs (opM addD (varM 4) (kI 1))) skipM) (setM 3 (varM 5))
abbrev needTg : PyData → Ev → Option Ev := tgTup 2 (tgCons (tgN 4) (tgCons (tgN 5) tgNil))
theorem need_tg (a b : PyData) (ρ : Ev) : needTg (.tuple [a, b]) ρ = some ((ρ.set 4 (.fz a)).set 5 (.fz b)) := rfl
theorem t_need_loop {n : Nat} (h1 : 1 ≤ n) (h4 : n ≤ 4) (d ds : PyData) (w : LS) : ∀ (ls : List Lin) (last : Lin) (k : Nat) (x y : Sl), (last :: ls).Pairwise (fun a b => ltL a b = true) → (∀ l ∈ ls, OkL n l) →
    ∃ x' y' z', forL needTg needBody (enumFrom k (ls.map dL)) [.fz d, .fz (.int n), .fz ds, .fz (dL last), x, y] w = .ok (.nx [.fz d, .fz (.int n), .fz ds, z', x', y']) w
  | [], last, k, x, y, _, _ => ⟨_, _, _, rfl⟩
  | l :: ls, last, k, x, y, h, hv => by
    rw [List.pairwise_cons] at h
    obtain ⟨x', y', z', e⟩ := t_need_loop h1 h4 d ds w ls l (k + 1) (.fz (.int k)) (.fz (dL l)) h.2 fun v hm => hv v (List.mem_cons_of_mem _ hm)
    have hl := t_is_line w h1 h4 (hv l (by simp))
    have h2 := h.1 l (by simp)
    have hn : isND true (dL last) .none w = .ok (.bool true) w := rfl
    refine ⟨x', y', z', ?_⟩
    simp [enumFrom, forL, need_tg, bind_w, seq_w, iff_w, or_w, not_w, and_w, test_w, def_w, len_w, acons_w, anil_w, var_w, hl, op_w, kN_w, hn, lt_LL, h2, skip_w, set_w, e]
theorem t_need_set {n : Nat} {ls : List Lin} (w : LS) (h : OkS n ls) : F_need_set [.fz (dS n ls)] w = .ok (dS n ls) w := by
  have hk : ¬ (400 : Int) < (ls.length : Int) := by have := h.k; omega
  have hn1 : (1 : Int) ≤ (n : Int) := by have := h.n1; omega
  have hn4 : (n : Int) ≤ 4 := by have := h.n4; omega
  have ii : isiB "tuple" (dS n ls) = some true := rfl
  have hl : len1 (dS n ls) w = .ok (.int 2) w := rfl
  have tg : tgTup 2 (tgCons (tgN 1) (tgCons (tgN 2) tgNil)) (dS n ls) = fun ρ => some ((ρ.set 1 (.fz (.int n))).set 2 (.fz (.tuple (ls.map dL)))) := rfl
  have en : enumM (lCons (varM 2) lNil) [.fz (dS n ls), .fz (.int n), .fz (.tuple (ls.map dL)), .fz .none, .un, .un] w = .ok (enumFrom 0 (ls.map dL)) w := rfl
  have loop : ∃ x y z, forL needTg needBody (enumFrom 0 (ls.map dL)) [.fz (dS n ls), .fz (.int n), .fz (.tuple (ls.map dL)), .fz .none, .un, .un] w = .ok (.nx [.fz (dS n ls), .fz (.int n), .fz (.tuple (ls.map dL)), z, x, y]) w := by
    cases ls with
    | nil => exact ⟨_, _, _, rfl⟩
    | cons l ls =>
      obtain ⟨x', y', z', e⟩ := t_need_loop h.n1 h.n4 (dS n (l :: ls)) (.tuple ((l :: ls).map dL)) w ls l 1 (.fz (.int 0)) (.fz (dL l)) h.c fun v hm => h.l v (List.mem_cons_of_mem _ hm)
      have hl2 := t_is_line w h.n1 h.n4 (h.l l (by simp))
      have hn : isND true .none .none w = .ok (.bool false) w := rfl
      refine ⟨x', y', z', ?_⟩
      rw [List.map_cons] at e ⊢
      simp [enumFrom, forL, need_tg, bind_w, seq_w, iff_w, or_w, not_w, and_w, test_w, def_w, len_w, acons_w, anil_w, var_w, hl2, op_w, kN_w, hn, skip_w, set_w, e]
  obtain ⟨x, y, z, e⟩ := loop
  simp [F_need_set, m_need_set, body_w, entM, seq_w, iff_w, or_w, not_w, test_w, isi_w, var_w, ii, op_w, call_w, lcons_w, lnil_w, lenD_w, hl, kI_w, ne_ii, skip_w, asg_w, tg, def_w, len_w, acons_w, anil_w, t_is_from, hn1, hn4, is_tt, len_T, gt_ii, hk, set_w, kN_w, for_w, en, e, ret_w]
end Wh

namespace Wh
open PySem PySem.Spec PyProof.Rows L2

/-! ### comprehensions over mapped lists -/
section
variable {α : Type} {vs : List Nat} {g : PyData → Ev → Option Ev} {ft : Ev → M Bool} {fe : Ev → M PyData} {ρ : Ev} {w : LS}
theorem lc_w (d : α → PyData) (t : α → Bool) (h : α → PyData) : ∀ l : List α, (∀ a ∈ l, ∃ ρ1, g (d a) (wipeE ρ vs) = some ρ1 ∧ ft ρ1 w = .ok (t a) w ∧ (t a = true → fe ρ1 w = .ok (h a) w)) →
    lcL vs g ft fe ρ (l.map d) w = .ok ((l.filter t).map h) w
  | [], _ => rfl
  | a :: l, H => by
    have ih := lc_w d t h l fun b hb => H b (List.mem_cons_of_mem _ hb)
    obtain ⟨ρ1, e1, e2, e3⟩ := H a (by simp)
    rw [List.map_cons, lcL, e1]
    simp only [bind_w, calm_eq, e2]
    cases q : t a with
    | true =>
      simp only [if_true, bind_w, calm_eq, e3 q, ih, pure_w]
      rw [List.filter_cons_of_pos (by simpa using q)]
      rfl
    | false =>
      simp only [Bool.false_eq_true, if_false, ih]
      rw [List.filter_cons_of_neg (by simp [q])]
theorem dc_w [DecidableEq α] {lt : α → α → Bool} {ok : α → Prop} {d : α → PyData} (N : Enc d lt ok) (t : α → Bool) : ∀ (l acc : List α), (∀ a ∈ l, ∃ ρ1, g (d a) (wipeE ρ vs) = some ρ1 ∧ ft ρ1 w = .ok (t a) w ∧ (t a = true → fe ρ1 w = .ok (d a) w)) →
    dcL vs g ft fe ρ (l.map d) (acc.map d) w = .ok ((ddF acc (l.filter t)).map d) w
  | [], acc, _ => rfl
  | a :: l, acc, H => by
    obtain ⟨ρ1, e1, e2, e3⟩ := H a (by simp)
    rw [List.map_cons, dcL, e1]
    simp only [bind_w, calm_eq, e2]
    cases q : t a with
    | true =>
      simp only [if_true, bind_w, calm_eq, e3 q, N.fit a, N.kHas]
      rw [List.filter_cons_of_pos (by simpa using q), ddF]
      by_cases m : a ∈ acc
      · rw [if_pos m]
        simp only [decide_eq_true m, if_true]
        exact dc_w N t l acc fun b hb => H b (List.mem_cons_of_mem _ hb)
      · rw [if_neg m]
        simp only [decide_eq_false m, Bool.false_eq_true, if_false]
        have := dc_w N t l (acc ++ [a]) fun b hb => H b (List.mem_cons_of_mem _ hb)
        rw [List.map_append] at this
        exact this
    | false =>
      simp only [Bool.false_eq_true, if_false]
      rw [List.filter_cons_of_neg (by simp [q])]
      exact dc_w N t l acc fun b hb => H b (List.mem_cons_of_mem _ hb)
end

/-! ### rows -/
def mx : Vec → Int
  | [] => 0
  | n :: ns => ns.foldl max n
def mn : Vec → Int
  | [] => 0
  | n :: ns => ns.foldl min n
theorem max_V {v : Vec} (h : v ≠ []) (w : LS) : maxD [dV v] w = .ok (.int (mx v)) w := by
  cases v with
  | nil => exact absurd rfl h
  | cons n ns =>
    show (match intsOf ((n :: ns).map .int) with | some (n :: ns) => pure (.int (ns.foldl max n)) | _ => M.no : M PyData) w = _
    rw [intsOf_map]
    rfl
theorem min_V {v : Vec} (h : v ≠ []) (w : LS) : minD [dV v] w = .ok (.int (mn v)) w := by
  cases v with
  | nil => exact absurd rfl h
  | cons n ns =>
    show (match intsOf ((n :: ns).map .int) with | some (n :: ns) => pure (.int (ns.foldl min n)) | _ => M.no : M PyData) w = _
    rw [intsOf_map]
    rfl
def pos (v : Vec) : Bool := decide (0 < mx v)
def rowsD (rows : List Vec) : List Vec := dd (rows.filter pos)
/-- a line, its periods cleaned -/
def cl (l : Lin) : Lin := (l.1, srt ltV (rowsD l.2))
theorem tup_list (l : List PyData) (w : LS) : tupleD [.list l] w = .ok (.tuple l) w := rfl
theorem len_dk (l : List PyData) (w : LS) : len1 (dkD l) w = .ok (.int (l.length : Nat)) w := by
  show (pure (.int ((l.map fun d => (d, PyData.bool true)).length : Nat)) : M PyData) w = _
  rw [List.length_map]
  rfl
theorem two_size : (2 : Nat) ≤ sizeLine := by decide
theorem t_line_of (b : Vec) (rows : List Vec) (w : LS) (h : ∀ v ∈ rows, v ≠ []) (hz : rows.length ≤ sizeLine) :
    F_line_of [.fz (dV b), .fz (.tuple (rows.map dV))] w = if 12 < (rowsD rows).length then .er .tg (.int 12) w else .ok (dL (cl (b, rows))) w := by
  have dc := dc_w (g := tgN 3) (vs := [3]) (ft := testM (opM gtD (callM maxD (lCons (varM 3) lNil)) (kI 0))) (fe := varM 3) (ρ := [.fz (dV b), .fz (.tuple (rows.map dV)), .un, .un]) (w := w) encV pos rows [] fun a ha => by
    have hm := max_V (h a ha) w
    refine ⟨[.fz (dV b), .fz (.tuple (rows.map dV)), .un, .fz (dV a)], rfl, ?_, fun _ => ?_⟩
    · simp [test_w, op_w, call_w, lcons_w, lnil_w, var_w, hm, kI_w, gt_ii, pos]
    · simp [var_w]
  rw [List.map_nil] at dc
  have hz' : (rows.map dV).length ≤ sizeLine := by rw [List.length_map]; exact hz
  have hdc : dcM [3] (tgN 3) (itM tupleM (varM 1)) (testM (opM gtD (callM maxD (lCons (varM 3) lNil)) (kI 0))) (varM 3) [.fz (dV b), .fz (.tuple (rows.map dV)), .un, .un] w = .ok (dkD ((rowsD rows).map dV)) w := by
    unfold dcM
    rw [bk (show itM tupleM (varM 1) [.fz (dV b), .fz (.tuple (rows.map dV)), .un, .un] w = .ok (rows.map dV) w from rfl), if_pos hz', bk dc]
    rfl
  have hs := encV.sortK (l := rowsD rows) (fun a ha => h a ((List.mem_filter.mp (dd_mem.mp ha)).1)) w
  have hs' : ∀ w, sortedD [dkD ((rowsD rows).map dV)] w = .ok (.list ((srt ltV (rowsD rows)).map dV)) w := fun w => encV.sortK (l := rowsD rows) (fun a ha => h a ((List.mem_filter.mp (dd_mem.mp ha)).1)) w
  by_cases q : 12 < (rowsD rows).length
  · rw [if_pos q]
    have q' : (12 : Int) < ((rowsD rows).length : Int) := by omega
    simp [F_line_of, m_line_of, body_w, entM, seq_w, set_w, hdc, iff_w, test_w, op_w, call_w, lcons_w, lnil_w, var_w, lenD_w, len_dk, kI_w, gt_ii, q', raise_w']
  · rw [if_neg q]
    have q' : ¬ (12 : Int) < ((rowsD rows).length : Int) := by omega
    simp [F_line_of, m_line_of, body_w, entM, seq_w, set_w, hdc, iff_w, test_w, op_w, call_w, lcons_w, lnil_w, var_w, lenD_w, len_dk, kI_w, gt_ii, q', skip_w, ret_w, tup_w, hs', tup_list, two_size, dL, cl]
theorem t_set_with (n : Int) (ls : List Lin) (x : PyData) (hx : x = .list (ls.map dL) ∨ x = .tuple (ls.map dL)) (w : LS) (hz : ls.length ≤ sizeLine) :
    F_set_with [.fz (.int n), .fz x] w = if 400 < (dd ls).length then .er .tg (.int 400) w else .ok (.tuple [.int n, .tuple ((srt ltL (dd ls)).map dL)]) w := by
  have dc := dc_w (g := tgN 3) (vs := [3]) (ft := yesM) (fe := varM 3) (ρ := [.fz (.int n), .fz x, .un, .un]) (w := w) encL (fun _ => true) ls [] fun a ha =>
    ⟨[.fz (.int n), .fz x, .un, .fz (dL a)], rfl, rfl, fun _ => by simp [var_w]⟩
  rw [List.filter_eq_self.mpr (fun _ _ => rfl), List.map_nil] at dc
  have hz' : (ls.map dL).length ≤ sizeLine := by rw [List.length_map]; exact hz
  have sq : itM seqM' (varM 1) [.fz (.int n), .fz x, .un, .un] w = .ok (ls.map dL) w := by
    rcases hx with rfl | rfl <;> rfl
  have hdc : dcM [3] (tgN 3) (itM seqM' (varM 1)) yesM (varM 3) [.fz (.int n), .fz x, .un, .un] w = .ok (dkD ((dd ls).map dL)) w := by
    unfold dcM
    rw [bk sq, if_pos hz', bk dc]
    rfl
  have hs' : ∀ w, sortedD [dkD ((dd ls).map dL)] w = .ok (.list ((srt ltL (dd ls)).map dL)) w := fun w => encL.sortK (l := dd ls) (fun _ _ => True.intro) w
  by_cases q : 400 < (dd ls).length
  · rw [if_pos q]
    have q' : (400 : Int) < ((dd ls).length : Int) := by omega
    simp [F_set_with, m_set_with, body_w, entM, seq_w, set_w, hdc, iff_w, test_w, op_w, call_w, lcons_w, lnil_w, var_w, lenD_w, len_dk, kI_w, gt_ii, q', raise_w']
  · rw [if_neg q]
    have q' : ¬ (400 : Int) < ((dd ls).length : Int) := by omega
    simp [F_set_with, m_set_with, body_w, entM, seq_w, set_w, hdc, iff_w, test_w, op_w, call_w, lcons_w, lnil_w, var_w, lenD_w, len_dk, kI_w, gt_ii, q', skip_w, ret_w, tup_w, hs', tup_list, two_size]
/-! ### sums of rows -/
def addV (v u : Vec) : Vec := List.zipWith (· + ·) v u
def subV (v u : Vec) : Vec := List.zipWith (· - ·) v u
def pr (p : Int × Int) : PyData := .tuple [.int p.1, .int p.2]
theorem zip_d : ∀ v u : Vec, zipD (v.map .int) (u.map .int) = (v.zip u).map pr
  | [], _ => by simp [zipD]
  | _ :: _, [] => by simp [zipD]
  | a :: v, b :: u => by
    have ih := zip_d v u
    unfold zipD at ih ⊢
    simp [ih, pr]
theorem t_added (v u : Vec) (w : LS) (hz : v.length ≤ sizeLine) : F_added [.fz (dV v), .fz (dV u), .fz (.int 1)] w = .ok (dV (addV v u)) w := by
  have lc := lc_w (g := tgTup 2 (tgCons (tgN 3) (tgCons (tgN 4) tgNil))) (vs := [3, 4]) (ft := yesM) (fe := opM addD (varM 3) (opM mulD (varM 2) (varM 4))) (ρ := [.fz (dV v), .fz (dV u), .fz (.int 1), .un, .un]) (w := w) pr (fun _ => true) (fun p => .int (p.1 + p.2)) (v.zip u) fun a ha => by
    refine ⟨[.fz (dV v), .fz (dV u), .fz (.int 1), .fz (.int a.1), .fz (.int a.2)], rfl, rfl, fun _ => ?_⟩
    have m1 : mulD (.int 1) (.int a.2) w = .ok (.int a.2) w := by
      show (if (-(2 ^ 64) < (1 : Int) ∧ (1 : Int) < 2 ^ 64) ∨ (-(2 ^ 64) < a.2 ∧ a.2 < 2 ^ 64) then pure (.int (1 * a.2)) else M.no : M PyData) w = _
      rw [if_pos (.inl (by decide)), Int.one_mul]
      rfl
    have a1 : addD (.int a.1) (.int a.2) w = .ok (.int (a.1 + a.2)) w := rfl
    simp [op_w, var_w, m1, a1]
  rw [List.filter_eq_self.mpr (fun _ _ => rfl)] at lc
  have e2 : ((v.zip u).map fun p : Int × Int => PyData.int (p.1 + p.2)) = (addV v u).map .int := by
    unfold addV
    rw [← List.map_uncurry_zip_eq_zipWith, List.map_map]
    rfl
  rw [e2] at lc
  have zi : zipM (lCons (varM 0) (lCons (varM 1) lNil)) [.fz (dV v), .fz (dV u), .fz (.int 1), .un, .un] w = .ok ((v.zip u).map pr) w := by
    show R.ok (zipD (v.map .int) (u.map .int)) w = _
    rw [zip_d]
  have hz' : ((v.zip u).map pr).length ≤ sizeLine := by
    rw [List.length_map, List.length_zip]
    omega
  have hl : lcM [3, 4] (tgTup 2 (tgCons (tgN 3) (tgCons (tgN 4) tgNil))) (zipM (lCons (varM 0) (lCons (varM 1) lNil))) yesM (opM addD (varM 3) (opM mulD (varM 2) (varM 4))) [.fz (dV v), .fz (dV u), .fz (.int 1), .un, .un] w = .ok (.list ((addV v u).map .int)) w := by
    unfold lcM
    rw [bk zi, if_pos hz', bk lc]
    rfl
  have tl : ∀ w, tupleD [.list ((addV v u).map .int)] w = .ok (dV (addV v u)) w := fun _ => rfl
  simp [F_added, m_added, body_w, entM, ret_w, call_w, lcons_w, lnil_w, hl, tl]
theorem t_need_short {v : Vec} (h : v ≠ []) (w : LS) : F_need_short [.fz (dV v)] w = if 1000000000 < mx v then .er .tg (.int 1000000000) w else .ok (dV v) w := by
  have hm := max_V h w
  by_cases q : 1000000000 < mx v
  · rw [if_pos q]
    simp [F_need_short, m_need_short, body_w, entM, seq_w, iff_w, test_w, op_w, call_w, lcons_w, lnil_w, var_w, hm, kI_w, gt_ii, q, raise_w']
  · rw [if_neg q]
    simp [F_need_short, m_need_short, body_w, entM, seq_w, iff_w, test_w, op_w, call_w, lcons_w, lnil_w, var_w, hm, kI_w, gt_ii, q, skip_w, ret_w]
theorem ixS0 (n : Nat) (ls : List Lin) (w : LS) : ixD (dS n ls) (.int 0) w = .ok (.int n) w := rfl
theorem ixS1 (n : Nat) (ls : List Lin) (w : LS) : ixD (dS n ls) (.int 1) w = .ok (.tuple (ls.map dL)) w := rfl
theorem t_need_two {n m : Nat} {ls ms : List Lin} (w : LS) (h1 : OkS n ls) (h2 : OkS m ms) : F_need_two [.fz (dS n ls), .fz (dS m ms)] w = if m = n then .ok (.int n) w else .er .un (dS m ms) w := by
  have n1 := fun w => t_need_set w h1
  have n2 := fun w => t_need_set w h2
  by_cases q : m = n
  · rw [if_pos q]
    have q' : (m : Int) = (n : Int) := by rw [q]
    simp [F_need_two, m_need_two, body_w, entM, seq_w, set_w, op_w, def_w, len_w, acons_w, anil_w, var_w, n1, n2, kI_w, ixS0, iff_w, test_w, ne_ii, q', skip_w, ret_w]
  · rw [if_neg q]
    have q' : ¬ (m : Int) = (n : Int) := by omega
    simp [F_need_two, m_need_two, body_w, entM, seq_w, set_w, op_w, def_w, len_w, acons_w, anil_w, var_w, n1, n2, kI_w, ixS0, iff_w, test_w, ne_ii, q', raise_w']
theorem add_TT (a b : List PyData) (w : LS) (h : a.length + b.length ≤ sizeLine) : addD (.tuple a) (.tuple b) w = .ok (.tuple (a ++ b)) w := by
  show (if a.length + b.length ≤ sizeLine then pure (.tuple (a ++ b)) else M.no : M PyData) w = _
  rw [if_pos h]
  rfl
theorem size_of_800 {n : Nat} (h : n ≤ 100000) : n ≤ sizeLine := by rw [sizeLine_eq]; omega
theorem t_union {n : Nat} {ls ms : List Lin} (w : LS) (h1 : OkS n ls) (h2 : OkS n ms) : F_union [.fz (dS n ls), .fz (dS n ms)] w = if 400 < (dd (ls ++ ms)).length then .er .tg (.int 400) w else .ok (dS n (srt ltL (dd (ls ++ ms)))) w := by
  have nt := fun w => t_need_two w h1 h2
  have k1 := h1.k
  have k2 := h2.k
  have sw := fun w => t_set_with n (ls ++ ms) (.tuple ((ls ++ ms).map dL)) (.inr rfl) w (size_of_800 (by rw [List.length_append]; omega))
  have ad := fun w => add_TT (ls.map dL) (ms.map dL) w (size_of_800 (by rw [List.length_map, List.length_map]; omega))
  by_cases q : 400 < (dd (ls ++ ms)).length
  · rw [if_pos q]
    simp only [if_pos q, List.map_append] at sw
    simp [F_union, m_union, body_w, entM, ret_w, def_w, len_w, acons_w, anil_w, var_w, nt, op_w, kI_w, ixS1, ad, sw]
  · rw [if_neg q]
    simp only [if_neg q, List.map_append] at sw
    have sw2 : ∀ w, F_set_with [.fz (.int n), .fz (.tuple (ls.map dL ++ ms.map dL))] w = .ok (dS n (srt ltL (dd (ls ++ ms)))) w := sw
    simp [F_union, m_union, body_w, entM, ret_w, def_w, len_w, acons_w, anil_w, var_w, nt, op_w, kI_w, ixS1, ad, sw2]
theorem t_union_un {n m : Nat} {ls ms : List Lin} (w : LS) (h1 : OkS n ls) (h2 : OkS m ms) (h : m ≠ n) : F_union [.fz (dS n ls), .fz (dS m ms)] w = .er .un (dS m ms) w := by
  have nt := t_need_two w h1 h2
  rw [if_neg h] at nt
  simp [F_union, m_union, body_w, entM, ret_w, def_w, len_w, acons_w, anil_w, var_w, nt]
end Wh

namespace Wh
open PySem PySem.Spec PyProof.Rows L2

/-! ### lines that are made, one after the other -/
inductive Ex (α : Type) where
  | ok (a : α)
  | er (e : Int)
def mkL (x : Lin) : Ex Lin := if 1000000000 < mx x.1 then .er 1000000000 else if 12 < (rowsD x.2).length then .er 12 else .ok (cl x)
def goL : List Lin → List Lin → Ex (List Lin)
  | acc, [] => .ok acc
  | acc, x :: xs => match mkL x with
    | .ok l => goL (acc ++ [l]) xs
    | .er e => .er e
def goS (r : Ex (List Lin)) (ys : List Lin) : Ex (List Lin) := match r with
  | .ok a => goL a ys
  | .er e => .er e
theorem goL_append : ∀ (xs ys acc : List Lin), goL acc (xs ++ ys) = goS (goL acc xs) ys
  | [], ys, acc => rfl
  | x :: xs, ys, acc => by
    show (match mkL x with | .ok l => goL (acc ++ [l]) (xs ++ ys) | .er e => .er e) = _
    rw [goL]
    cases mkL x with
    | ok l => exact goL_append xs ys (acc ++ [l])
    | er e => rfl
theorem goL_len : ∀ {xs acc r : List Lin}, goL acc xs = .ok r → r.length = acc.length + xs.length
  | [], acc, r, h => by
    rw [goL] at h
    cases h
    rfl
  | x :: xs, acc, r, h => by
    rw [goL] at h
    cases q : mkL x with
    | ok l =>
      rw [q] at h
      have := goL_len h
      rw [this, List.length_append, List.length_cons, List.length_cons, List.length_nil]
      omega
    | er e => rw [q] at h; cases h
theorem goL_ok : ∀ {xs acc : List Lin}, (∀ x ∈ xs, mkL x = .ok (cl x)) → goL acc xs = .ok (acc ++ xs.map cl)
  | [], acc, _ => by simp [goL]
  | x :: xs, acc, h => by
    rw [goL, h x (by simp)]
    simp only
    rw [goL_ok fun y hy => h y (List.mem_cons_of_mem _ hy)]
    simp
theorem app_w {i : Nat} {f : Ev → M PyData} {ρ : Ev} {w : LS} {ds : List PyData} (h : ρ[i]? = some (.ow ds)) : appM i f ρ w = match f ρ w with
  | .ok d w' => if ds.length < sizeLine then .ok (.nx (ρ.set i (.ow (ds ++ [d])))) w' else .no
  | .er c d w' => .er c d w'
  | .no => .no := by
  unfold appM
  rw [h]
  simp only [bind_w]
  cases f ρ w with
  | ok d w' =>
    simp only
    by_cases q : ds.length < sizeLine
    · rw [if_pos q, if_pos q]; rfl
    · rw [if_neg q, if_neg q]; rfl
  | er c d w' => rfl
  | no => rfl
/-- line_of(need_short(b), rows) -/
theorem t_mk {b : Vec} {rows : List Vec} (w : LS) (hb : b ≠ []) (hr : ∀ v ∈ rows, v ≠ []) (hz : rows.length ≤ sizeLine) {fb fr : Ev → M PyData} {ρ : Ev} (e1 : fb ρ w = .ok (dV b) w) (e2 : fr ρ w = .ok (.tuple (rows.map dV)) w) :
    defM (lenM 2 F_line_of) (aCons (defM (lenM 1 F_need_short) (aCons fb aNil)) (aCons fr aNil)) ρ w = match mkL (b, rows) with
    | .ok l => .ok (dL l) w
    | .er e => .er .tg (.int e) w := by
  have ns := t_need_short hb w
  have lo := t_line_of b rows w hr hz
  unfold mkL
  by_cases q : 1000000000 < mx b
  · rw [if_pos q] at ns
    simp [def_w, len_w, acons_w, anil_w, e1, ns, q]
  · rw [if_neg q] at ns
    by_cases q2 : 12 < (rowsD rows).length
    · rw [if_pos q2] at lo
      simp [def_w, len_w, acons_w, anil_w, e1, ns, q, e2, lo, q2]
    · rw [if_neg q2] at lo
      simp [def_w, len_w, acons_w, anil_w, e1, ns, q, e2, lo, q2]
def resL (r : Ex (List Lin)) (w : LS) (f : List Lin → Ev) : R Fl := match r with
  | .ok a => .ok (.nx (f a)) w
  | .er e => .er .tg (.int e) w
/-- .. appended to the list in slot i -/
theorem t_app {b : Vec} {rows : List Vec} {acc : List Lin} (w : LS) (hb : b ≠ []) (hr : ∀ v ∈ rows, v ≠ []) (hz : rows.length ≤ sizeLine) (ha : acc.length < sizeLine) {fb fr : Ev → M PyData} {ρ : Ev} {i : Nat} (hi : ρ[i]? = some (.ow (acc.map dL))) (e1 : fb ρ w = .ok (dV b) w) (e2 : fr ρ w = .ok (.tuple (rows.map dV)) w) :
    appM i (defM (lenM 2 F_line_of) (aCons (defM (lenM 1 F_need_short) (aCons fb aNil)) (aCons fr aNil))) ρ w = resL (goL acc [(b, rows)]) w fun a => ρ.set i (.ow (a.map dL)) := by
  rw [app_w hi, t_mk w hb hr hz e1 e2, goL]
  cases mkL (b, rows) with
  | ok l =>
    simp only [List.length_map, if_pos ha, goL, resL, List.map_append, List.map_cons, List.map_nil]
  | er e => rfl

/-! ### sum_of -/
abbrev sumIn : Ev → M Fl := appM 3 (defM (lenM 2 F_line_of) (aCons (defM (lenM 1 F_need_short) (aCons (defM (lenM 3 F_added) (aCons (varM 4) (aCons (varM 6) (aCons (kI 1) aNil)))) aNil)) (aCons (opM addD (varM 5) (varM 7)) aNil)))
def sumX (a b : Lin) : Lin := (addV a.1 b.1, a.2 ++ b.2)
theorem addV_len {v u : Vec} {n : Nat} (h1 : v.length = n) (h2 : u.length = n) : (addV v u).length = n := by
  unfold addV
  rw [List.length_zipWith, h1, h2, Nat.min_self]
theorem ne_of_len {v : Vec} {n : Nat} (h : v.length = n) (h1 : 1 ≤ n) : v ≠ [] := fun e => by rw [e] at h; simp at h; omega
theorem resL_nx {r : Ex (List Lin)} {w : LS} {f : List Lin → Ev} {k : Ev → M Fl} : (match resL r w f with
    | .ok (.nx ρ') w' => k ρ' w'
    | .ok (.rt d) w' => .ok (.rt d) w'
    | .er c d w' => .er c d w'
    | .no => .no) = match r with
    | .ok a => k (f a) w
    | .er e => .er .tg (.int e) w := by
  cases r <;> rfl
theorem forL_cons (g : PyData → Ev → Option Ev) (b : Ev → M Fl) (d : PyData) (ds : List PyData) (ρ ρ1 : Ev) (w : LS) (h : g d ρ = some ρ1) : forL g b (d :: ds) ρ w = match b ρ1 w with
  | .ok (.nx ρ') w' => forL g b ds ρ' w'
  | .ok (.rt d) w' => .ok (.rt d) w'
  | .er c d w' => .er c d w'
  | .no => .no := by
  rw [forL, h]
  simp only [bind_w]
  cases b ρ1 w with
  | ok r w' => cases r <;> rfl
  | er c d w' => rfl
  | no => rfl
theorem okV_ne {n : Nat} {v : Vec} (h : okV n v) (h1 : 1 ≤ n) : v ≠ [] := ne_of_len h.1 h1
theorem tg2 (i j : Nat) (a b : PyData) (ρ : Ev) : tgTup 2 (tgCons (tgN i) (tgCons (tgN j) tgNil)) (.tuple [a, b]) ρ = some ((ρ.set i (.fz a)).set j (.fz b)) := rfl
theorem t_sum_in {n : Nat} (h1 : 1 ≤ n) (h4 : n ≤ 4) (o1 o2 nn : Sl) (a : Lin) (w : LS) (ha : OkL n a) : ∀ (ms acc : List Lin) (x y : Sl), (∀ m ∈ ms, OkL n m) → acc.length + ms.length ≤ 1000 →
    ∃ (x' y' : Sl), forL (tgTup 2 (tgCons (tgN 6) (tgCons (tgN 7) tgNil))) sumIn (ms.map dL) [o1, o2, nn, .ow (acc.map dL), .fz (dV a.1), .fz (.tuple (a.2.map dV)), x, y] w =
      resL (goL acc (ms.map (sumX a))) w fun r => [o1, o2, nn, .ow (r.map dL), .fz (dV a.1), .fz (.tuple (a.2.map dV)), x', y']
  | [], acc, x, y, _, _ => ⟨x, y, rfl⟩
  | m :: ms, acc, x, y, h, hz => by
    have hm := h m (by simp)
    have hb : addV a.1 m.1 ≠ [] := ne_of_len (addV_len ha.b.1 hm.b.1) h1
    have hk1 := ha.k
    have hk2 := hm.k
    have hr : ∀ v ∈ a.2 ++ m.2, v ≠ [] := fun v hv => by
      rcases List.mem_append.mp hv with q | q
      · exact okV_ne (ha.p v q) h1
      · exact okV_ne (hm.p v q) h1
    have hz2 : (a.2 ++ m.2).length ≤ sizeLine := size_of_800 (by rw [List.length_append]; omega)
    rw [List.length_cons] at hz
    have hl := ha.b.1
    have ad := t_added a.1 m.1 w (size_of_800 (by omega))
    have at_ := add_TT (a.2.map dV) (m.2.map dV) w (size_of_800 (by rw [List.length_map, List.length_map]; omega))
    rw [← List.map_append] at at_
    have step := t_app (b := addV a.1 m.1) (rows := a.2 ++ m.2) (acc := acc) (ρ := [o1, o2, nn, .ow (acc.map dL), .fz (dV a.1), .fz (.tuple (a.2.map dV)), .fz (dV m.1), .fz (.tuple (m.2.map dV))]) (i := 3)
      (fb := defM (lenM 3 F_added) (aCons (varM 4) (aCons (varM 6) (aCons (kI 1) aNil)))) (fr := opM addD (varM 5) (varM 7)) w hb hr hz2 (by rw [sizeLine_eq]; omega) rfl (by simp [def_w, len_w, acons_w, anil_w, var_w, kI_w, ad]) (by simp [op_w, var_w, at_])
    have fc := forL_cons (tgTup 2 (tgCons (tgN 6) (tgCons (tgN 7) tgNil))) sumIn (dL m) (ms.map dL) [o1, o2, nn, .ow (acc.map dL), .fz (dV a.1), .fz (.tuple (a.2.map dV)), x, y] [o1, o2, nn, .ow (acc.map dL), .fz (dV a.1), .fz (.tuple (a.2.map dV)), .fz (dV m.1), .fz (.tuple (m.2.map dV))] w rfl
    have step' : sumIn [o1, o2, nn, .ow (acc.map dL), .fz (dV a.1), .fz (.tuple (a.2.map dV)), .fz (dV m.1), .fz (.tuple (m.2.map dV))] w = resL (goL acc [sumX a m]) w fun r => [o1, o2, nn, .ow (r.map dL), .fz (dV a.1), .fz (.tuple (a.2.map dV)), .fz (dV m.1), .fz (.tuple (m.2.map dV))] := step
    rw [step', resL_nx] at fc
    rw [List.map_cons, fc, List.map_cons]
    have gc : goL acc (sumX a m :: ms.map (sumX a)) = goS (goL acc [sumX a m]) (ms.map (sumX a)) := goL_append [sumX a m] _ acc
    rw [gc]
    cases q : goL acc [sumX a m] with
    | ok r =>
      have hlen := goL_len q
      rw [List.length_cons, List.length_nil] at hlen
      obtain ⟨x', y', e⟩ := t_sum_in h1 h4 o1 o2 nn a w ha ms r (.fz (dV m.1)) (.fz (.tuple (m.2.map dV))) (fun k hk => h k (List.mem_cons_of_mem _ hk)) (by omega)
      exact ⟨x', y', e⟩
    | er e => exact ⟨x, y, rfl⟩
def sums (ls ms : List Lin) : List Lin := ls.flatMap fun a => ms.map (sumX a)
theorem sums_len (ls ms : List Lin) : (sums ls ms).length = ls.length * ms.length := by
  induction ls with
  | nil => simp [sums]
  | cons a ls ih =>
    unfold sums at ih ⊢
    rw [List.flatMap_cons, List.length_append, ih, List.length_map, List.length_cons, Nat.succ_mul]
    omega
theorem t_sum_out {n : Nat} (h1 : 1 ≤ n) (h4 : n ≤ 4) (o1 : Sl) (nn : Sl) (ms : List Lin) (hms : ∀ m ∈ ms, OkL n m) (w : LS) : ∀ (ls acc : List Lin) (p q x y : Sl), (∀ m ∈ ls, OkL n m) → acc.length + ls.length * ms.length ≤ 1000 →
    ∃ (p' q' x' y' : Sl), forL (tgTup 2 (tgCons (tgN 4) (tgCons (tgN 5) tgNil))) (forM (tgTup 2 (tgCons (tgN 6) (tgCons (tgN 7) tgNil))) (itM tupleM (opM ixD (varM 1) (kI 1))) sumIn) (ls.map dL) [o1, .fz (dS n ms), nn, .ow (acc.map dL), p, q, x, y] w =
      resL (goL acc (sums ls ms)) w fun r => [o1, .fz (dS n ms), nn, .ow (r.map dL), p', q', x', y']
  | [], acc, p, q, x, y, _, _ => ⟨p, q, x, y, rfl⟩
  | a :: ls, acc, p, q, x, y, h, hz => by
    rw [List.length_cons, Nat.succ_mul] at hz
    obtain ⟨x1, y1, e1⟩ := t_sum_in h1 h4 o1 (.fz (dS n ms)) nn a w (h a (by simp)) ms acc x y hms (by omega)
    have fw : forM (tgTup 2 (tgCons (tgN 6) (tgCons (tgN 7) tgNil))) (itM tupleM (opM ixD (varM 1) (kI 1))) sumIn [o1, .fz (dS n ms), nn, .ow (acc.map dL), .fz (dV a.1), .fz (.tuple (a.2.map dV)), x, y] w = resL (goL acc (ms.map (sumX a))) w fun r => [o1, .fz (dS n ms), nn, .ow (r.map dL), .fz (dV a.1), .fz (.tuple (a.2.map dV)), x1, y1] := by
      rw [for_w, show itM tupleM (opM ixD (varM 1) (kI 1)) [o1, .fz (dS n ms), nn, .ow (acc.map dL), .fz (dV a.1), .fz (.tuple (a.2.map dV)), x, y] w = .ok (ms.map dL) w from rfl]
      exact e1
    have fc := forL_cons (tgTup 2 (tgCons (tgN 4) (tgCons (tgN 5) tgNil))) (forM (tgTup 2 (tgCons (tgN 6) (tgCons (tgN 7) tgNil))) (itM tupleM (opM ixD (varM 1) (kI 1))) sumIn) (dL a) (ls.map dL) [o1, .fz (dS n ms), nn, .ow (acc.map dL), p, q, x, y] [o1, .fz (dS n ms), nn, .ow (acc.map dL), .fz (dV a.1), .fz (.tuple (a.2.map dV)), x, y] w rfl
    rw [fw, resL_nx] at fc
    rw [List.map_cons, fc]
    have gc : goL acc (sums (a :: ls) ms) = goS (goL acc (ms.map (sumX a))) (sums ls ms) := by
      show goL acc ((a :: ls).flatMap _) = _
      rw [List.flatMap_cons, goL_append]
      rfl
    rw [gc]
    cases z : goL acc (ms.map (sumX a)) with
    | ok r =>
      have hlen := goL_len z
      rw [List.length_map] at hlen
      obtain ⟨p', q', x', y', e⟩ := t_sum_out h1 h4 o1 nn ms hms w ls r (.fz (dV a.1)) (.fz (.tuple (a.2.map dV))) x1 y1 (fun k hk => h k (List.mem_cons_of_mem _ hk)) (by omega)
      exact ⟨p', q', x', y', e⟩
    | er e => exact ⟨p, q, x, y, rfl⟩
/-- the end of sum_of and star: set_with of what was made -/
def endL (n : Nat) (r : Ex (List Lin)) (w : LS) : R PyData := match r with
  | .ok a => if 400 < (dd a).length then .er .tg (.int 400) w else .ok (dS n (srt ltL (dd a))) w
  | .er e => .er .tg (.int e) w
theorem mul_ii {i j : Int} (w : LS) (h : (-(2 ^ 64) < i ∧ i < 2 ^ 64) ∨ (-(2 ^ 64) < j ∧ j < 2 ^ 64)) : mulD (.int i) (.int j) w = .ok (.int (i * j)) w := by
  have e : mulD (.int i) (.int j) = if (-(2 ^ 64) < i ∧ i < 2 ^ 64) ∨ (-(2 ^ 64) < j ∧ j < 2 ^ 64) then pure (.int (i * j)) else M.no := rfl
  rw [e, if_pos h]
  rfl
theorem mul_nn (a b : Nat) (h : a ≤ 400) (w : LS) : mulD (.int a) (.int b) w = .ok (.int (a * b : Nat)) w := by
  have h1 : (-(2 ^ 64) : Int) < (a : Int) := Int.lt_of_lt_of_le (by decide) (Int.natCast_nonneg a)
  have h2 : (a : Int) < 2 ^ 64 := Int.lt_of_le_of_lt (Int.ofNat_le.mpr h) (by decide)
  rw [mul_ii w (Or.inl ⟨h1, h2⟩), Int.natCast_mul]
theorem own_w (i : Nat) (ρ : Ev) (w : LS) : ownM i lNil ρ w = .ok (.nx (ρ.set i (.ow []))) w := rfl
/-- set_with of the list that was made -/
theorem t_end {n : Nat} {a : List Lin} (ha : a.length ≤ 1000) (w : LS) : F_set_with [.fz (.int n), .fz (.list (a.map dL))] w = endL n (.ok a) w := by
  have sw := t_set_with n a (.list (a.map dL)) (.inl rfl) w (size_of_800 (Nat.le_trans ha (by decide)))
  exact sw
def seqR (r : R Fl) (k : Ev → M Fl) : R Fl := match r with
  | .ok (.nx ρ') w' => k ρ' w'
  | .ok (.rt d) w' => .ok (.rt d) w'
  | .er c d w' => .er c d w'
  | .no => .no
def finR (r : R Fl) : R PyData := match r with
  | .ok (.nx _) w' => .ok .none w'
  | .ok (.rt d) w' => .ok d w'
  | .er c d w' => .er c d w'
  | .no => .no
def retR (r : R PyData) : R Fl := match r with
  | .ok d w' => .ok (.rt d) w'
  | .er c d w' => .er c d w'
  | .no => .no
theorem seq_r (m1 m2 : Ev → M Fl) (ρ : Ev) (w : LS) : seqM m1 m2 ρ w = seqR (m1 ρ w) m2 := seq_w m1 m2 ρ w
theorem body_r (n : Nat) (m : Ev → M Fl) (as : List Sl) (w : LS) : bodyM n m as w = finR (m (entM as n) w) := body_w n m as w
theorem ret_r (f : Ev → M PyData) (ρ : Ev) (w : LS) : retM f ρ w = retR (f ρ w) := ret_w f ρ w
theorem seqR_nx (ρ : Ev) (w : LS) (k : Ev → M Fl) : seqR (.ok (.nx ρ) w) k = k ρ w := rfl
theorem seqR_rt (d : PyData) (w : LS) (k : Ev → M Fl) : seqR (.ok (.rt d) w) k = .ok (.rt d) w := rfl
theorem seqR_er (c : Cl) (d : PyData) (w : LS) (k : Ev → M Fl) : seqR (.er c d w) k = .er c d w := rfl
theorem finR_er (c : Cl) (d : PyData) (w : LS) : finR (.er c d w) = .er c d w := rfl
theorem fin_ret (r : R PyData) : finR (retR r) = r := by cases r <;> rfl
theorem res_tail {r : Ex (List Lin)} {w : LS} {f : List Lin → Ev} {k : Ev → M Fl} {n : Nat} (hk : ∀ a, r = .ok a → k (f a) w = retR (endL n (.ok a) w)) : finR (seqR (resL r w f) k) = endL n r w := by
  cases r with
  | er e => rfl
  | ok a =>
    show finR (k (f a) w) = _
    rw [hk a rfl, fin_ret]
theorem iff_t {g : Ev → M Bool} {m1 m2 : Ev → M Fl} {ρ : Ev} {w w' : LS} (h : g ρ w = .ok true w') : iffM g m1 m2 ρ w = m1 ρ w' := by rw [iff_w, h]
theorem iff_f {g : Ev → M Bool} {m1 m2 : Ev → M Fl} {ρ : Ev} {w w' : LS} (h : g ρ w = .ok false w') : iffM g m1 m2 ρ w = m2 ρ w' := by rw [iff_w, h]
theorem test_of {f : Ev → M PyData} {ρ : Ev} {w w' : LS} {b : Bool} (h : f ρ w = .ok (.bool b) w') : testM f ρ w = .ok b w' := by rw [test_w, h]
abbrev sumRho (n : Nat) (ls ms : List Lin) (x y : Sl) : Ev := [.fz (dS n ls), .fz (dS n ms), x, y, .un, .un, .un, .un]
theorem t_sum {n : Nat} {ls ms : List Lin} (w : LS) (h1 : OkS n ls) (h2 : OkS n ms) : F_sum_of [.fz (dS n ls), .fz (dS n ms)] w = if 400 < ls.length * ms.length then .er .tg (.int 400) w else endL n (goL [] (sums ls ms)) w := by
  have nt := t_need_two w h1 h2
  rw [if_pos rfl] at nt
  have mn := mul_nn ls.length ms.length h1.k w
  have e1 : setM 2 (defM (lenM 2 F_need_two) (aCons (varM 0) (aCons (varM 1) aNil))) (sumRho n ls ms .un .un) w = .ok (.nx (sumRho n ls ms (.fz (.int n)) .un)) w := by
    simp [sumRho, set_w, def_w, len_w, acons_w, anil_w, var_w, nt]
  have e2 : testM (opM gtD (opM mulD (callM lenD (lCons (opM ixD (varM 0) (kI 1)) lNil)) (callM lenD (lCons (opM ixD (varM 1) (kI 1)) lNil))) (kI 400)) (sumRho n ls ms (.fz (.int n)) .un) w = .ok (decide ((400 : Int) < ((ls.length * ms.length : Nat) : Int))) w := by
    refine test_of ?_
    simp only [sumRho, op_w, call_w, lcons_w, lnil_w, var_w, kI_w, List.getElem?_cons_zero, List.getElem?_cons_succ, ixS1, lenD_w, len_T, List.length_map, mn, gt_ii]
  have st : F_sum_of [.fz (dS n ls), .fz (dS n ms)] w = finR (m_sum_of (sumRho n ls ms .un .un) w) := body_r _ _ _ _
  rw [st]
  unfold m_sum_of
  rw [seq_r, e1, seqR_nx, seq_r]
  by_cases q : 400 < ls.length * ms.length
  · rw [if_pos q]
    have q' : (400 : Int) < ((ls.length * ms.length : Nat) : Int) := by omega
    rw [decide_eq_true q'] at e2
    rw [iff_t e2, raise_w', kI_w, seqR_er, finR_er]
  · rw [if_neg q]
    have q' : ¬ (400 : Int) < ((ls.length * ms.length : Nat) : Int) := by omega
    rw [decide_eq_false q'] at e2
    rw [iff_f e2, skip_w, seqR_nx, seq_r, own_w, seqR_nx, seq_r]
    have hq : ls.length * ms.length ≤ 400 := Nat.le_of_not_lt q
    obtain ⟨p', q2, x', y', e⟩ := t_sum_out h1.n1 h1.n4 (.fz (dS n ls)) (.fz (.int n)) ms h2.l w ls [] .un .un .un .un h1.l (Nat.le_trans (Nat.le_of_eq (Nat.zero_add _)) (Nat.le_trans hq (by decide)))
    have tm : ∀ l w, tupleM (.tuple l) w = .ok l w := fun _ _ => rfl
    have ei : itM tupleM (opM ixD (varM 0) (kI 1)) (sumRho n ls ms (.fz (.int n)) (.ow [])) w = .ok (ls.map dL) w := by
      simp only [sumRho, it_w, op_w, var_w, kI_w, List.getElem?_cons_zero, ixS1, tm]
    have ef : forM (tgTup 2 (tgCons (tgN 4) (tgCons (tgN 5) tgNil))) (itM tupleM (opM ixD (varM 0) (kI 1))) (forM (tgTup 2 (tgCons (tgN 6) (tgCons (tgN 7) tgNil))) (itM tupleM (opM ixD (varM 1) (kI 1))) sumIn) (sumRho n ls ms (.fz (.int n)) (.ow [])) w =
        resL (goL [] (sums ls ms)) w fun r => [.fz (dS n ls), .fz (dS n ms), .fz (.int n), .ow (r.map dL), p', q2, x', y'] := by
      rw [for_w, ei]
      exact e
    have es : (sumRho n ls ms (.fz (.int n)) .un).set 3 (.ow []) = sumRho n ls ms (.fz (.int n)) (.ow []) := rfl
    rw [es, ef]
    refine res_tail fun a hg => ?_
    have hlen := goL_len hg
    rw [sums_len, List.length_nil, Nat.zero_add] at hlen
    have en := t_end (n := n) (a := a) (Nat.le_trans (Nat.le_of_eq hlen) (Nat.le_trans hq (by decide))) w
    rw [← en, ret_r]
    simp [frz, def_w, len_w, acons_w, anil_w, var_w]
end Wh

namespace Wh
open PySem PySem.Spec PyProof.Rows L2

/-! ### star -/
def chs : Nat → List (List Int)
  | 0 => []
  | 1 => [[0]]
  | 2 => [[0], [0, 1], [1]]
  | _ => [[0], [0, 1], [0, 1, 2], [0, 2], [1], [1, 2], [2]]
theorem t_chs {k : Nat} (h : k ≤ 3) (w : LS) : F_choices_from 10 [.fz (.int k), .fz (.int 0)] w = .ok (.list ((chs k).map dV)) w := by
  match k, h with
  | 0, _ => kernel_rfl
  | 1, _ => kernel_rfl
  | 2, _ => kernel_rfl
  | 3, _ => kernel_rfl
/-- the line of a choice, not cleaned: base and rows -/
def chAdd (ls : List Lin) (x : Lin) : List Int → Lin
  | [] => x
  | i :: is => match ls[i.toNat]? with
    | some l => chAdd ls (addV x.1 l.1, x.2 ++ l.2 ++ [l.1]) is
    | none => x
abbrev starIn : Ev → M Fl := seqM (setM 6 (defM (lenM 3 F_added) (aCons (varM 6) (aCons (opM ixD (opM ixD (varM 2) (varM 8)) (kI 0)) (aCons (kI 1) aNil)))))
  (setM 7 (opM addD (opM addD (varM 7) (opM ixD (opM ixD (varM 2) (varM 8)) (kI 1))) (tupM (lCons (opM ixD (opM ixD (varM 2) (varM 8)) (kI 0)) lNil))))
theorem ix_lin (ls : List Lin) (i : Nat) (l : Lin) (h : ls[i]? = some l) (w : LS) : ixD (.tuple (ls.map dL)) (.int i) w = .ok (dL l) w := by
  have e : L2.atI (ls.map dL) (i : Int) = some (dL l) := L2.atI_nat (by rw [List.getElem?_map, h]; rfl)
  show (match L2.atI (ls.map dL) (i : Int) with | some d => pure d | none => M.no : M PyData) w = _
  rw [e]
  rfl
theorem ixL0 (l : Lin) (w : LS) : ixD (dL l) (.int 0) w = .ok (dV l.1) w := rfl
theorem ixL1 (l : Lin) (w : LS) : ixD (dL l) (.int 1) w = .ok (.tuple (l.2.map dV)) w := rfl
theorem one_size : (1 : Nat) ≤ sizeLine := by decide
theorem t_star_in {n : Nat} (h4 : n ≤ 4) (s0 s1 s3 s4 s5 : Sl) (ls : List Lin) (hls : ∀ l ∈ ls, OkL n l) (w : LS) : ∀ (is : List Int) (x : Lin) (y : Sl), (∀ i ∈ is, 0 ≤ i ∧ i < ls.length) → x.1.length = n → x.2.length + 13 * is.length ≤ 1000 →
    ∃ y', forL (tgN 8) starIn (is.map .int) [s0, s1, .fz (.tuple (ls.map dL)), s3, s4, s5, .fz (dV x.1), .fz (.tuple (x.2.map dV)), y] w =
      .ok (.nx [s0, s1, .fz (.tuple (ls.map dL)), s3, s4, s5, .fz (dV (chAdd ls x is).1), .fz (.tuple ((chAdd ls x is).2.map dV)), y']) w
  | [], x, y, _, _, _ => ⟨y, rfl⟩
  | i :: is, x, y, h, hx, hz => by
    obtain ⟨hi0, hi1⟩ := h i (by simp)
    have hin : i.toNat < ls.length := by omega
    have hg : ls[i.toNat]? = some ls[i.toNat] := List.getElem?_eq_getElem hin
    have hei : (i.toNat : Int) = i := Int.toNat_of_nonneg hi0
    have hix := fun w => ix_lin ls i.toNat ls[i.toNat] hg w
    rw [hei] at hix
    have hl := hls ls[i.toNat] (List.getElem_mem hin)
    have hlb := hl.b.1
    have hlk := hl.k
    rw [List.length_cons] at hz
    have ad := t_added x.1 ls[i.toNat].1 w (size_of_800 (by omega))
    have a1 := add_TT (x.2.map dV) (ls[i.toNat].2.map dV) w (size_of_800 (by rw [List.length_map, List.length_map]; omega))
    have a2 := add_TT (x.2.map dV ++ ls[i.toNat].2.map dV) [dV ls[i.toNat].1] w (size_of_800 (by rw [List.length_append, List.length_map, List.length_map, List.length_cons, List.length_nil]; omega))
    have em : x.2.map dV ++ ls[i.toNat].2.map dV ++ [dV ls[i.toNat].1] = (x.2 ++ ls[i.toNat].2 ++ [ls[i.toNat].1]).map dV := by simp
    rw [em] at a2
    obtain ⟨y', e⟩ := t_star_in h4 s0 s1 s3 s4 s5 ls hls w is (addV x.1 ls[i.toNat].1, x.2 ++ ls[i.toNat].2 ++ [ls[i.toNat].1]) (.fz (.int i)) (fun j hj => h j (List.mem_cons_of_mem _ hj)) (addV_len hx hlb) (by
      simp only [List.length_append, List.length_cons, List.length_nil]
      omega)
    refine ⟨y', ?_⟩
    have ec : chAdd ls x (i :: is) = chAdd ls (addV x.1 ls[i.toNat].1, x.2 ++ ls[i.toNat].2 ++ [ls[i.toNat].1]) is := by
      rw [chAdd, hg]
    rw [ec, ← e, List.map_cons]
    have fc := forL_cons (tgN 8) starIn (.int i) (is.map .int) [s0, s1, .fz (.tuple (ls.map dL)), s3, s4, s5, .fz (dV x.1), .fz (.tuple (x.2.map dV)), y] [s0, s1, .fz (.tuple (ls.map dL)), s3, s4, s5, .fz (dV x.1), .fz (.tuple (x.2.map dV)), .fz (.int i)] w rfl
    rw [fc]
    simp [seq_w, set_w, def_w, len_w, acons_w, anil_w, var_w, op_w, hix, ixL0, ixL1, kI_w, ad, a1, tup_w, lcons_w, lnil_w, one_size, a2]
end Wh

namespace Wh
open PySem PySem.Spec PyProof.Rows L2

theorem chAdd_ok {n : Nat} {ls : List Lin} (hls : ∀ l ∈ ls, OkL n l) : ∀ (is : List Int) (x : Lin), x.1.length = n → (∀ v ∈ x.2, v.length = n) → (chAdd ls x is).1.length = n ∧ (∀ v ∈ (chAdd ls x is).2, v.length = n) ∧ (chAdd ls x is).2.length ≤ x.2.length + 13 * is.length
  | [], x, h1, h2 => ⟨h1, h2, Nat.le_refl _⟩
  | i :: is, x, h1, h2 => by
    rw [chAdd]
    cases q : ls[i.toNat]? with
    | none =>
      refine ⟨h1, h2, ?_⟩
      simp only
      omega
    | some l =>
      have hl := hls l (List.mem_of_getElem? q)
      have hk := hl.k
      obtain ⟨a, b, c⟩ := chAdd_ok hls is (addV x.1 l.1, x.2 ++ l.2 ++ [l.1]) (addV_len h1 hl.b.1) fun v hv => by
        rcases List.mem_append.mp hv with z | z
        · rcases List.mem_append.mp z with z | z
          · exact h2 v z
          · exact (hl.p v z).1
        · rw [List.mem_singleton.mp z]
          exact hl.b.1
      refine ⟨a, b, ?_⟩
      simp only [List.length_append, List.length_cons, List.length_nil] at c ⊢
      omega
def chL (ls : List Lin) (z : Vec) (is : List Int) : Lin := chAdd ls (z, []) is
abbrev starBody : Ev → M Fl := seqM (setM 6 (varM 3)) (seqM (setM 7 (tupM lNil)) (seqM (forM (tgN 8) (itM tupleM (varM 5)) starIn) (appM 4 (defM (lenM 2 F_line_of) (aCons (defM (lenM 1 F_need_short) (aCons (varM 6) aNil)) (aCons (varM 7) aNil))))))
theorem zero_size : (0 : Nat) ≤ sizeLine := Nat.zero_le _
abbrev stRho (n : Nat) (ls : List Lin) (z : Vec) (acc : List Lin) (c s t y : Sl) : Ev := [.fz (dS n ls), .fz (.int n), .fz (.tuple (ls.map dL)), .fz (dV z), .ow (acc.map dL), c, s, t, y]
theorem t_star_body {n : Nat} (h1 : 1 ≤ n) (h4 : n ≤ 4) (ls : List Lin) (hls : ∀ l ∈ ls, OkL n l) (z : Vec) (hz : z.length = n) (w : LS) (is : List Int) (hi : ∀ i ∈ is, 0 ≤ i ∧ i < ls.length) (hil : is.length ≤ 8) (acc : List Lin) (ha : acc.length ≤ 1000) (s t y : Sl) :
    ∃ y', starBody (stRho n ls z acc (.fz (dV is)) s t y) w = resL (goL acc [chL ls z is]) w fun r => stRho n ls z r (.fz (dV is)) (.fz (dV (chL ls z is).1)) (.fz (.tuple ((chL ls z is).2.map dV))) y' := by
  obtain ⟨y', e⟩ := t_star_in h4 (.fz (dS n ls)) (.fz (.int n)) (.fz (dV z)) (.ow (acc.map dL)) (.fz (dV is)) ls hls w is (z, []) y hi hz (by rw [List.length_nil]; omega)
  obtain ⟨c1, c2, c3⟩ := chAdd_ok hls is (z, []) hz (fun v hv => absurd hv (by simp))
  refine ⟨y', ?_⟩
  have e1 : setM 6 (varM 3) (stRho n ls z acc (.fz (dV is)) s t y) w = .ok (.nx (stRho n ls z acc (.fz (dV is)) (.fz (dV z)) t y)) w := rfl
  have e2 : setM 7 (tupM lNil) (stRho n ls z acc (.fz (dV is)) (.fz (dV z)) t y) w = .ok (.nx (stRho n ls z acc (.fz (dV is)) (.fz (dV z)) (.fz (.tuple [])) y)) w := by
    simp [set_w, tup_w, lnil_w, zero_size]
  have e3 : forM (tgN 8) (itM tupleM (varM 5)) starIn (stRho n ls z acc (.fz (dV is)) (.fz (dV z)) (.fz (.tuple [])) y) w = .ok (.nx (stRho n ls z acc (.fz (dV is)) (.fz (dV (chL ls z is).1)) (.fz (.tuple ((chL ls z is).2.map dV))) y')) w := by
    have tm : ∀ w, tupleM (dV is) w = .ok (is.map .int) w := fun _ => rfl
    have ei : itM tupleM (varM 5) (stRho n ls z acc (.fz (dV is)) (.fz (dV z)) (.fz (.tuple [])) y) w = .ok (is.map .int) w := by
      simp only [stRho, it_w, var_w, List.getElem?_cons_zero, List.getElem?_cons_succ, tm]
    rw [for_w, ei]
    exact e
  have e4 := t_app (b := (chL ls z is).1) (rows := (chL ls z is).2) (acc := acc) (i := 4) (fb := varM 6) (fr := varM 7) (ρ := stRho n ls z acc (.fz (dV is)) (.fz (dV (chL ls z is).1)) (.fz (.tuple ((chL ls z is).2.map dV))) y') w (ne_of_len c1 h1) (fun v hv => ne_of_len (c2 v hv) h1) (size_of_800 (by
    rw [List.length_nil] at c3
    show (chAdd ls (z, []) is).2.length ≤ 100000
    omega)) (by rw [sizeLine_eq]; omega) rfl rfl rfl
  unfold starBody
  rw [seq_r, e1, seqR_nx, seq_r, e2, seqR_nx, seq_r, e3, seqR_nx]
  exact e4
theorem t_star_out {n : Nat} (h1 : 1 ≤ n) (h4 : n ≤ 4) (ls : List Lin) (hls : ∀ l ∈ ls, OkL n l) (z : Vec) (hz : z.length = n) (w : LS) : ∀ (cs : List (List Int)) (acc : List Lin) (c s t y : Sl), (∀ is ∈ cs, (∀ i ∈ is, 0 ≤ i ∧ i < ls.length) ∧ is.length ≤ 8) → acc.length + cs.length ≤ 1000 →
    ∃ c' s' t' y', forL (tgN 5) starBody (cs.map dV) (stRho n ls z acc c s t y) w = resL (goL acc (cs.map (chL ls z))) w fun r => stRho n ls z r c' s' t' y'
  | [], acc, c, s, t, y, _, _ => ⟨c, s, t, y, rfl⟩
  | is :: cs, acc, c, s, t, y, h, hl => by
    rw [List.length_cons] at hl
    obtain ⟨hi, hil⟩ := h is (by simp)
    obtain ⟨y1, e1⟩ := t_star_body h1 h4 ls hls z hz w is hi hil acc (by omega) s t y
    have fc := forL_cons (tgN 5) starBody (dV is) (cs.map dV) (stRho n ls z acc c s t y) (stRho n ls z acc (.fz (dV is)) s t y) w rfl
    rw [e1, resL_nx] at fc
    rw [List.map_cons, fc, List.map_cons]
    have gc : goL acc (chL ls z is :: cs.map (chL ls z)) = goS (goL acc [chL ls z is]) (cs.map (chL ls z)) := goL_append [chL ls z is] _ acc
    rw [gc]
    cases q : goL acc [chL ls z is] with
    | er e => exact ⟨c, s, t, y, rfl⟩
    | ok r =>
      have hlen := goL_len q
      rw [List.length_cons, List.length_nil] at hlen
      obtain ⟨c', s', t', y', e⟩ := t_star_out h1 h4 ls hls z hz w cs r (.fz (dV is)) (.fz (dV (chL ls z is).1)) (.fz (.tuple ((chL ls z is).2.map dV))) y1 (fun j hj => h j (List.mem_cons_of_mem _ hj)) (by omega)
      exact ⟨c', s', t', y', e⟩
theorem chs_ok {k : Nat} (h : k ≤ 3) : ∀ is ∈ chs k, (∀ i ∈ is, 0 ≤ i ∧ i < (k : Int)) ∧ is.length ≤ 8 := by
  match k, h with
  | 0, _ => decide
  | 1, _ => decide
  | 2, _ => decide
  | 3, _ => decide
theorem chs_len {k : Nat} (h : k ≤ 3) : (chs k).length ≤ 7 := by
  match k, h with
  | 0, _ => decide
  | 1, _ => decide
  | 2, _ => decide
  | 3, _ => decide
/-- star, of three lines at most -/
theorem t_star {n : Nat} {ls : List Lin} (w : LS) (h : OkS n ls) (h3 : ls.length ≤ 3) : F_star [.fz (dS n ls)] w = endL n (goL [(zer n, [])] ((chs ls.length).map (chL ls (zer n)))) w := by
  have ns := t_need_set w h
  have e1 : asgM (tgTup 2 (tgCons (tgN 1) (tgCons (tgN 2) tgNil))) (defM (lenM 1 F_need_set) (aCons (varM 0) aNil)) [.fz (dS n ls), .un, .un, .un, .un, .un, .un, .un, .un] w = .ok (.nx [.fz (dS n ls), .fz (.int n), .fz (.tuple (ls.map dL)), .un, .un, .un, .un, .un, .un]) w := by
    have tg : tgTup 2 (tgCons (tgN 1) (tgCons (tgN 2) tgNil)) (dS n ls) = fun ρ => some ((ρ.set 1 (.fz (.int n))).set 2 (.fz (.tuple (ls.map dL)))) := rfl
    simp [asg_w, def_w, len_w, acons_w, anil_w, var_w, ns, tg]
  have q' : ¬ (8 : Int) < (ls.length : Int) := by omega
  have e2 : testM (opM gtD (callM lenD (lCons (varM 2) lNil)) (kI 8)) [.fz (dS n ls), .fz (.int n), .fz (.tuple (ls.map dL)), .un, .un, .un, .un, .un, .un] w = .ok false w := by
    refine test_of ?_
    simp [op_w, call_w, lcons_w, lnil_w, var_w, kI_w, lenD_w, len_T, gt_ii, q']
  have mz := mul_zer h.n1 (by have := h.n4; omega : n ≤ 1000) w
  have e3 : setM 3 (opM mulD (tupM (lCons (kI 0) lNil)) (varM 1)) [.fz (dS n ls), .fz (.int n), .fz (.tuple (ls.map dL)), .un, .un, .un, .un, .un, .un] w = .ok (.nx [.fz (dS n ls), .fz (.int n), .fz (.tuple (ls.map dL)), .fz (dV (zer n)), .un, .un, .un, .un, .un]) w := by
    simp [set_w, op_w, tup_w, lcons_w, lnil_w, kI_w, one_size, var_w, mz]
  have e4 : ownM 4 (lCons (tupM (lCons (varM 3) (lCons (tupM lNil) lNil))) lNil) [.fz (dS n ls), .fz (.int n), .fz (.tuple (ls.map dL)), .fz (dV (zer n)), .un, .un, .un, .un, .un] w = .ok (.nx (stRho n ls (zer n) [(zer n, [])] .un .un .un .un)) w := by
    unfold ownM
    have el : lCons (tupM (lCons (varM 3) (lCons (tupM lNil) lNil))) lNil [.fz (dS n ls), .fz (.int n), .fz (.tuple (ls.map dL)), .fz (dV (zer n)), .un, .un, .un, .un, .un] w = .ok [dL (zer n, [])] w := by
      simp [lcons_w, lnil_w, tup_w, var_w, two_size, zero_size, dL]
    rw [bk el, if_pos (show [dL (zer n, [])].length ≤ sizeLine from one_size)]
    rfl
  have hl : (zer n).length = n := by unfold zer; exact List.length_replicate
  obtain ⟨c', s', t', y', eo⟩ := t_star_out h.n1 h.n4 ls h.l (zer n) hl w (chs ls.length) [(zer n, [])] .un .un .un .un (chs_ok h3) (by
    have := chs_len h3
    rw [List.length_cons, List.length_nil]
    omega)
  have ef : forM (tgN 5) (itM listM (defM (lenM 2 (F_choices_from 10)) (aCons (callM lenD (lCons (varM 2) lNil)) (aCons (kI 0) aNil)))) starBody (stRho n ls (zer n) [(zer n, [])] .un .un .un .un) w = resL (goL [(zer n, [])] ((chs ls.length).map (chL ls (zer n)))) w fun r => stRho n ls (zer n) r c' s' t' y' := by
    have lm : ∀ l w, listM (.list l) w = .ok l w := fun _ _ => rfl
    have tc := t_chs h3 w
    have ei : itM listM (defM (lenM 2 (F_choices_from 10)) (aCons (callM lenD (lCons (varM 2) lNil)) (aCons (kI 0) aNil))) (stRho n ls (zer n) [(zer n, [])] .un .un .un .un) w = .ok ((chs ls.length).map dV) w := by
      simp only [stRho, it_w, def_w, len_w, acons_w, anil_w, call_w, lcons_w, lnil_w, var_w, kI_w, List.getElem?_cons_zero, List.getElem?_cons_succ, lenD_w, len_T, List.length_map, List.length_cons, List.length_nil, tc, lm, if_true]
    rw [for_w, ei]
    exact eo
  have st : F_star [.fz (dS n ls)] w = finR (m_star [.fz (dS n ls), .un, .un, .un, .un, .un, .un, .un, .un] w) := body_r _ _ _ _
  rw [st]
  unfold m_star
  rw [seq_r, e1, seqR_nx, seq_r, iff_f e2, skip_w, seqR_nx, seq_r, e3, seqR_nx, seq_r, e4, seqR_nx, seq_r, ef]
  refine res_tail fun a hg => ?_
  have hlen := goL_len hg
  have hc := chs_len h3
  rw [List.length_map, List.length_cons, List.length_nil] at hlen
  have en := t_end (n := n) (a := a) (by omega) w
  rw [← en, ret_r]
  simp [stRho, frz, def_w, len_w, acons_w, anil_w, var_w]
/-- of more than eight -/
theorem t_star_big {n : Nat} {ls : List Lin} (w : LS) (h : OkS n ls) (h8 : 8 < ls.length) : F_star [.fz (dS n ls)] w = .er .tg (.int 400) w := by
  have ns := t_need_set w h
  have e1 : asgM (tgTup 2 (tgCons (tgN 1) (tgCons (tgN 2) tgNil))) (defM (lenM 1 F_need_set) (aCons (varM 0) aNil)) [.fz (dS n ls), .un, .un, .un, .un, .un, .un, .un, .un] w = .ok (.nx [.fz (dS n ls), .fz (.int n), .fz (.tuple (ls.map dL)), .un, .un, .un, .un, .un, .un]) w := by
    have tg : tgTup 2 (tgCons (tgN 1) (tgCons (tgN 2) tgNil)) (dS n ls) = fun ρ => some ((ρ.set 1 (.fz (.int n))).set 2 (.fz (.tuple (ls.map dL)))) := rfl
    simp [asg_w, def_w, len_w, acons_w, anil_w, var_w, ns, tg]
  have q' : (8 : Int) < (ls.length : Int) := by omega
  have e2 : testM (opM gtD (callM lenD (lCons (varM 2) lNil)) (kI 8)) [.fz (dS n ls), .fz (.int n), .fz (.tuple (ls.map dL)), .un, .un, .un, .un, .un, .un] w = .ok true w := by
    refine test_of ?_
    simp [op_w, call_w, lcons_w, lnil_w, var_w, kI_w, lenD_w, len_T, gt_ii, q']
  have st : F_star [.fz (dS n ls)] w = finR (m_star [.fz (dS n ls), .un, .un, .un, .un, .un, .un, .un, .un] w) := body_r _ _ _ _
  rw [st]
  unfold m_star
  rw [seq_r, e1, seqR_nx, seq_r, iff_t e2, raise_w', kI_w, seqR_er, finR_er]
end Wh

namespace Wh
open PySem PySem.Spec PyProof.Rows L2

/-! ### the law's own rows -/
theorem zipM_w {i j : Nat} {ρ : Ev} {v u : Vec} (w : LS) (e1 : ρ[i]? = some (.fz (dV v))) (e2 : ρ[j]? = some (.fz (dV u))) : zipM (lCons (varM i) (lCons (varM j) lNil)) ρ w = .ok ((v.zip u).map pr) w := by
  unfold zipM
  have q : lCons (varM i) (lCons (varM j) lNil) ρ w = .ok [dV v, dV u] w := by simp [lcons_w, lnil_w, var_w, e1, e2]
  rw [bk q]
  show R.ok (zipD (v.map .int) (u.map .int)) w = _
  rw [zip_d]
theorem t_plus (v u : Vec) (w : LS) (hz : v.length ≤ sizeLine) : F_l_plus [.fz (dV v), .fz (dV u)] w = .ok (dV (addV v u)) w := by
  have lc := lc_w (g := tgTup 2 (tgCons (tgN 2) (tgCons (tgN 3) tgNil))) (vs := [2, 3]) (ft := yesM) (fe := opM addD (varM 2) (varM 3)) (ρ := [.fz (dV v), .fz (dV u), .un, .un]) (w := w) pr (fun _ => true) (fun p => .int (p.1 + p.2)) (v.zip u) fun a ha => by
    refine ⟨[.fz (dV v), .fz (dV u), .fz (.int a.1), .fz (.int a.2)], rfl, rfl, fun _ => ?_⟩
    have a1 : addD (.int a.1) (.int a.2) w = .ok (.int (a.1 + a.2)) w := rfl
    simp [op_w, var_w, a1]
  rw [List.filter_eq_self.mpr (fun _ _ => rfl)] at lc
  have e2 : ((v.zip u).map fun p : Int × Int => PyData.int (p.1 + p.2)) = (addV v u).map .int := by
    unfold addV
    rw [← List.map_uncurry_zip_eq_zipWith, List.map_map]
    rfl
  rw [e2] at lc
  have zi := zipM_w (i := 0) (j := 1) (ρ := [.fz (dV v), .fz (dV u), .un, .un]) w rfl rfl
  have hz' : ((v.zip u).map pr).length ≤ sizeLine := by
    rw [List.length_map, List.length_zip]
    omega
  have hl : lcM [2, 3] (tgTup 2 (tgCons (tgN 2) (tgCons (tgN 3) tgNil))) (zipM (lCons (varM 0) (lCons (varM 1) lNil))) yesM (opM addD (varM 2) (varM 3)) [.fz (dV v), .fz (dV u), .un, .un] w = .ok (.list ((addV v u).map .int)) w := by
    unfold lcM
    rw [bk zi, if_pos hz', bk lc]
    rfl
  have tl : ∀ w, tupleD [.list ((addV v u).map .int)] w = .ok (dV (addV v u)) w := fun _ => rfl
  simp [F_l_plus, m_l_plus, body_w, entM, ret_w, call_w, lcons_w, lnil_w, hl, tl]
theorem t_minus (v u : Vec) (w : LS) (hz : v.length ≤ sizeLine) : F_l_minus [.fz (dV v), .fz (dV u)] w = .ok (dV (subV v u)) w := by
  have lc := lc_w (g := tgTup 2 (tgCons (tgN 2) (tgCons (tgN 3) tgNil))) (vs := [2, 3]) (ft := yesM) (fe := opM subD (varM 2) (varM 3)) (ρ := [.fz (dV v), .fz (dV u), .un, .un]) (w := w) pr (fun _ => true) (fun p => .int (p.1 - p.2)) (v.zip u) fun a ha => by
    refine ⟨[.fz (dV v), .fz (dV u), .fz (.int a.1), .fz (.int a.2)], rfl, rfl, fun _ => ?_⟩
    have a1 : subD (.int a.1) (.int a.2) w = .ok (.int (a.1 - a.2)) w := rfl
    simp [op_w, var_w, a1]
  rw [List.filter_eq_self.mpr (fun _ _ => rfl)] at lc
  have e2 : ((v.zip u).map fun p : Int × Int => PyData.int (p.1 - p.2)) = (subV v u).map .int := by
    unfold subV
    rw [← List.map_uncurry_zip_eq_zipWith, List.map_map]
    rfl
  rw [e2] at lc
  have zi := zipM_w (i := 0) (j := 1) (ρ := [.fz (dV v), .fz (dV u), .un, .un]) w rfl rfl
  have hz' : ((v.zip u).map pr).length ≤ sizeLine := by
    rw [List.length_map, List.length_zip]
    omega
  have hl : lcM [2, 3] (tgTup 2 (tgCons (tgN 2) (tgCons (tgN 3) tgNil))) (zipM (lCons (varM 0) (lCons (varM 1) lNil))) yesM (opM subD (varM 2) (varM 3)) [.fz (dV v), .fz (dV u), .un, .un] w = .ok (.list ((subV v u).map .int)) w := by
    unfold lcM
    rw [bk zi, if_pos hz', bk lc]
    rfl
  have tl : ∀ w, tupleD [.list ((subV v u).map .int)] w = .ok (dV (subV v u)) w := fun _ => rfl
  simp [F_l_minus, m_l_minus, body_w, entM, ret_w, call_w, lcons_w, lnil_w, hl, tl]

/-! ### the law's clean lines -/
theorem ni_own {α : Type} [DecidableEq α] {lt : α → α → Bool} {ok : α → Prop} {d : α → PyData} (N : Enc d lt ok) {f : Ev → M PyData} {ρ : Ev} {w : LS} {j : Nat} {l : List α} {a : α} (e1 : f ρ w = .ok (d a) w) (e2 : ρ[j]? = some (.ow (l.map d))) : testM (inSlM true f j) ρ w = .ok (!decide (a ∈ l)) w := by
  refine test_of ?_
  unfold inSlM
  rw [bk e1, e2]
  exact N.in_ true l a w
theorem ni_in {α : Type} [DecidableEq α] {lt : α → α → Bool} {ok : α → Prop} {d : α → PyData} (N : Enc d lt ok) {f : Ev → M PyData} {ρ : Ev} {w : LS} {j : Nat} {l : List α} {a : α} (e1 : f ρ w = .ok (d a) w) (e2 : ρ[j]? = some (.ow (l.map d))) (h : a ∈ l) : testM (inSlM true f j) ρ w = .ok false w := by
  rw [ni_own N e1 e2, decide_eq_true h]
  rfl
theorem ni_out {α : Type} [DecidableEq α] {lt : α → α → Bool} {ok : α → Prop} {d : α → PyData} (N : Enc d lt ok) {f : Ev → M PyData} {ρ : Ev} {w : LS} {j : Nat} {l : List α} {a : α} (e1 : f ρ w = .ok (d a) w) (e2 : ρ[j]? = some (.ow (l.map d))) (h : a ∉ l) : testM (inSlM true f j) ρ w = .ok true w := by
  rw [ni_own N e1 e2, decide_eq_false h]
  rfl
theorem app_n {α : Type} {d : α → PyData} {i : Nat} {f : Ev → M PyData} {ρ : Ev} {w : LS} {l : List α} {a : α} (h : ρ[i]? = some (.ow (l.map d))) (e : f ρ w = .ok (d a) w) (hs : l.length < sizeLine) : appM i f ρ w = .ok (.nx (ρ.set i (.ow ((l ++ [a]).map d)))) w := by
  have hs' : (l.map d).length < sizeLine := by rw [List.length_map]; exact hs
  rw [app_w h, e]
  simp only [if_pos hs', List.map_append, List.map_cons, List.map_nil]
theorem and_t {f g : Ev → M Bool} {ρ : Ev} {w w' : LS} (h : f ρ w = .ok true w') : andM f g ρ w = g ρ w' := by rw [and_w, h]
theorem and_f {f g : Ev → M Bool} {ρ : Ev} {w w' : LS} (h : f ρ w = .ok false w') : andM f g ρ w = .ok false w' := by rw [and_w, h]
abbrev keepIn : Ev → M Fl := iffM (andM (testM (opM gtD (callM maxD (lCons (varM 5) lNil)) (kI 0))) (testM (inSlM true (varM 5) 4))) (appM 4 (varM 5)) skipM
theorem ddF_nil_len (l acc : List Vec) : acc.length ≤ (ddF acc l).length ∧ (ddF acc l).length ≤ acc.length + l.length := by
  induction l generalizing acc with
  | nil => exact ⟨Nat.le_refl _, Nat.le_refl _⟩
  | cons x l ih =>
    rw [ddF]
    by_cases q : x ∈ acc
    · rw [if_pos q]
      have := ih acc
      rw [List.length_cons]
      omega
    · rw [if_neg q]
      have := ih (acc ++ [x])
      rw [List.length_append, List.length_cons, List.length_nil] at this
      rw [List.length_cons]
      omega
abbrev clRho (o : Sl) (fnd : List Lin) (b k : Sl) (acc : List Vec) (r l : Sl) : Ev := [o, .ow (fnd.map dL), b, k, .ow (acc.map dV), r, l]
theorem t_keep (o : Sl) (fnd : List Lin) (b k l : Sl) (w : LS) : ∀ (rows acc : List Vec) (r : Sl), (∀ v ∈ rows, v ≠ []) → acc.length + rows.length ≤ 1000 →
    ∃ r', forL (tgN 5) keepIn (rows.map dV) (clRho o fnd b k acc r l) w = .ok (.nx (clRho o fnd b k (ddF acc (rows.filter pos)) r' l)) w
  | [], acc, r, _, _ => ⟨r, rfl⟩
  | v :: rows, acc, r, h, hz => by
    rw [List.length_cons] at hz
    have hv := max_V (h v (by simp)) w
    have fc := forL_cons (tgN 5) keepIn (dV v) (rows.map dV) (clRho o fnd b k acc r l) (clRho o fnd b k acc (.fz (dV v)) l) w rfl
    have g1 : testM (opM gtD (callM maxD (lCons (varM 5) lNil)) (kI 0)) (clRho o fnd b k acc (.fz (dV v)) l) w = .ok (pos v) w := by
      refine test_of ?_
      simp [op_w, call_w, lcons_w, lnil_w, var_w, hv, kI_w, gt_ii, pos]
    have ev : varM 5 (clRho o fnd b k acc (.fz (dV v)) l) w = .ok (dV v) w := by simp [var_w]
    have es : (clRho o fnd b k acc (.fz (dV v)) l)[4]? = some (.ow (acc.map dV)) := rfl
    have h' : ∀ u ∈ rows, u ≠ [] := fun u hu => h u (List.mem_cons_of_mem _ hu)
    rw [List.map_cons, fc]
    by_cases q : pos v = true
    · rw [List.filter_cons_of_pos q, ddF]
      by_cases m : v ∈ acc
      · have e : keepIn (clRho o fnd b k acc (.fz (dV v)) l) w = .ok (.nx (clRho o fnd b k acc (.fz (dV v)) l)) w := by
          unfold keepIn
          rw [iff_f ((and_t (g1.trans (by rw [q]))).trans (ni_in encV ev es m)), skip_w]
        rw [e, if_pos m]
        exact t_keep o fnd b k l w rows acc _ h' (by omega)
      · have e : keepIn (clRho o fnd b k acc (.fz (dV v)) l) w = .ok (.nx (clRho o fnd b k (acc ++ [v]) (.fz (dV v)) l)) w := by
          unfold keepIn
          rw [iff_t ((and_t (g1.trans (by rw [q]))).trans (ni_out encV ev es m)), app_n (d := dV) (l := acc) (a := v) es ev (by rw [sizeLine_eq]; omega)]
          rfl
        rw [e, if_neg m]
        exact t_keep o fnd b k l w rows (acc ++ [v]) _ h' (by rw [List.length_append, List.length_cons, List.length_nil]; omega)
    · have q' : pos v = false := by simpa using q
      have e : keepIn (clRho o fnd b k acc (.fz (dV v)) l) w = .ok (.nx (clRho o fnd b k acc (.fz (dV v)) l)) w := by
        unfold keepIn
        rw [iff_f (and_f (g1.trans (by rw [q']))), skip_w]
      rw [e, List.filter_cons_of_neg q]
      exact t_keep o fnd b k l w rows acc _ h' (by omega)
abbrev clBody : Ev → M Fl := seqM (ownM 4 lNil)
  (seqM (forM (tgN 5) (itM tupleM (varM 3)) keepIn)
  (fun ρ => (seqM (setM 6 (tupM (lCons (varM 2) (lCons (callM tupleD (lCons (callM sortedD (lCons (varM 4) lNil)) lNil)) lNil))))
  (iffM (testM (inSlM true (varM 6) 1)) (appM 1 (varM 6)) skipM)) (frz 4 ρ)))
def put1 (fnd : List Lin) (x : Lin) : List Lin := if x ∈ fnd then fnd else fnd ++ [x]
theorem t_cl_body (o : Sl) (fnd : List Lin) (x : Lin) (a r l : Sl) (w : LS) (h : ∀ v ∈ x.2, v ≠ []) (hz : x.2.length ≤ 1000) (hf : fnd.length ≤ 100000) :
    ∃ a' r' l', clBody [o, .ow (fnd.map dL), .fz (dV x.1), .fz (.tuple (x.2.map dV)), a, r, l] w = .ok (.nx [o, .ow ((put1 fnd (cl x)).map dL), .fz (dV x.1), .fz (.tuple (x.2.map dV)), a', r', l']) w := by
  obtain ⟨r', e⟩ := t_keep o fnd (.fz (dV x.1)) (.fz (.tuple (x.2.map dV))) l w x.2 [] r h (by rw [List.length_nil]; omega)
  have hb : (rowsD x.2).length ≤ 1000 := by
    have := (ddF_nil_len (x.2.filter pos) []).2
    rw [List.length_nil] at this
    have := List.length_filter_le pos x.2
    show (ddF [] (x.2.filter pos)).length ≤ 1000
    omega
  refine ⟨.fz (.list ((rowsD x.2).map dV)), r', .fz (dL (cl x)), ?_⟩
  have e1 : ownM 4 lNil [o, .ow (fnd.map dL), .fz (dV x.1), .fz (.tuple (x.2.map dV)), a, r, l] w = .ok (.nx (clRho o fnd (.fz (dV x.1)) (.fz (.tuple (x.2.map dV))) [] r l)) w := by
    unfold ownM
    rw [bk (show lNil [o, .ow (fnd.map dL), .fz (dV x.1), .fz (.tuple (x.2.map dV)), a, r, l] w = .ok [] w from lnil_w _ _), if_pos (show ([] : List PyData).length ≤ sizeLine from zero_size)]
    rfl
  have e2 : forM (tgN 5) (itM tupleM (varM 3)) keepIn (clRho o fnd (.fz (dV x.1)) (.fz (.tuple (x.2.map dV))) [] r l) w = .ok (.nx (clRho o fnd (.fz (dV x.1)) (.fz (.tuple (x.2.map dV))) (rowsD x.2) r' l)) w := by
    have ei : itM tupleM (varM 3) (clRho o fnd (.fz (dV x.1)) (.fz (.tuple (x.2.map dV))) [] r l) w = .ok (x.2.map dV) w := rfl
    rw [for_w, ei]
    exact e
  have hs := encV.sortL (l := rowsD x.2) (fun v hv => h v ((List.mem_filter.mp (dd_mem.mp hv)).1)) (by rw [sizeLine_eq]; omega)
  have e3 : setM 6 (tupM (lCons (varM 2) (lCons (callM tupleD (lCons (callM sortedD (lCons (varM 4) lNil)) lNil)) lNil))) [o, .ow (fnd.map dL), .fz (dV x.1), .fz (.tuple (x.2.map dV)), .fz (.list ((rowsD x.2).map dV)), r', l] w = .ok (.nx [o, .ow (fnd.map dL), .fz (dV x.1), .fz (.tuple (x.2.map dV)), .fz (.list ((rowsD x.2).map dV)), r', .fz (dL (cl x))]) w := by
    simp [set_w, tup_w, lcons_w, lnil_w, var_w, call_w, hs, tup_list, two_size, dL, cl]
  have fz : frz 4 (clRho o fnd (.fz (dV x.1)) (.fz (.tuple (x.2.map dV))) (rowsD x.2) r' l) = [o, .ow (fnd.map dL), .fz (dV x.1), .fz (.tuple (x.2.map dV)), .fz (.list ((rowsD x.2).map dV)), r', l] := rfl
  have ev : varM 6 [o, .ow (fnd.map dL), .fz (dV x.1), .fz (.tuple (x.2.map dV)), .fz (.list ((rowsD x.2).map dV)), r', .fz (dL (cl x))] w = .ok (dL (cl x)) w := by simp [var_w]
  have es : ([o, .ow (fnd.map dL), .fz (dV x.1), .fz (.tuple (x.2.map dV)), .fz (.list ((rowsD x.2).map dV)), r', .fz (dL (cl x))] : Ev)[1]? = some (.ow (fnd.map dL)) := rfl
  unfold clBody
  rw [seq_r, e1, seqR_nx, seq_r, e2, seqR_nx, fz, seq_r, e3, seqR_nx]
  by_cases m : cl x ∈ fnd
  · rw [iff_f (ni_in encL ev es m), skip_w, put1, if_pos m]
  · rw [iff_t (ni_out encL ev es m), app_n (d := dL) (l := fnd) (a := cl x) es ev (by rw [sizeLine_eq]; omega), put1, if_neg m]
    rfl
theorem t_cl_all (o : Sl) (w : LS) : ∀ (xs fnd : List Lin) (b k a r l : Sl), (∀ x ∈ xs, (∀ v ∈ x.2, v ≠ []) ∧ x.2.length ≤ 1000) → fnd.length + xs.length ≤ 100000 →
    ∃ b' k' a' r' l', forL (tgTup 2 (tgCons (tgN 2) (tgCons (tgN 3) tgNil))) clBody (xs.map dL) [o, .ow (fnd.map dL), b, k, a, r, l] w = .ok (.nx [o, .ow ((ddF fnd (xs.map cl)).map dL), b', k', a', r', l']) w
  | [], fnd, b, k, a, r, l, _, _ => ⟨b, k, a, r, l, rfl⟩
  | x :: xs, fnd, b, k, a, r, l, h, hz => by
    rw [List.length_cons] at hz
    obtain ⟨h1, h2⟩ := h x (by simp)
    obtain ⟨a1, r1, l1, e1⟩ := t_cl_body o fnd x a r l w h1 h2 (by omega)
    have fc := forL_cons (tgTup 2 (tgCons (tgN 2) (tgCons (tgN 3) tgNil))) clBody (dL x) (xs.map dL) [o, .ow (fnd.map dL), b, k, a, r, l] [o, .ow (fnd.map dL), .fz (dV x.1), .fz (.tuple (x.2.map dV)), a, r, l] w rfl
    have hp : (put1 fnd (cl x)).length ≤ fnd.length + 1 := by
      unfold put1
      by_cases m : cl x ∈ fnd
      · rw [if_pos m]; omega
      · rw [if_neg m, List.length_append, List.length_cons, List.length_nil]; omega
    obtain ⟨b', k', a', r', l', e⟩ := t_cl_all o w xs (put1 fnd (cl x)) (.fz (dV x.1)) (.fz (.tuple (x.2.map dV))) a1 r1 l1 (fun y hy => h y (List.mem_cons_of_mem _ hy)) (by omega)
    refine ⟨b', k', a', r', l', ?_⟩
    have ee : ddF fnd (cl x :: xs.map cl) = ddF (put1 fnd (cl x)) (xs.map cl) := by
      rw [ddF, put1]
      by_cases m : cl x ∈ fnd
      · rw [if_pos m, if_pos m]
      · rw [if_neg m, if_neg m]
    rw [List.map_cons, fc, e1, List.map_cons, ee]
    exact e
def clean (xs : List Lin) : List Lin := srt ltL (dd (xs.map cl))
theorem ddL_len : ∀ (l acc : List Lin), (ddF acc l).length ≤ acc.length + l.length
  | [], acc => Nat.le_refl _
  | x :: l, acc => by
    have := ddL_len l (if x ∈ acc then acc else acc ++ [x])
    rw [ddF, List.length_cons]
    by_cases m : x ∈ acc
    · rw [if_pos m] at this ⊢; omega
    · rw [if_neg m, List.length_append, List.length_cons, List.length_nil] at this
      rw [if_neg m]; omega
theorem t_clean {d : PyData} {xs : List Lin} (w : LS) (hd : d = .list (xs.map dL) ∨ d = .tuple (xs.map dL)) (h : ∀ x ∈ xs, (∀ v ∈ x.2, v ≠ []) ∧ x.2.length ≤ 1000) (hz : xs.length ≤ 100000) : F_l_clean [.fz d] w = .ok (.tuple ((clean xs).map dL)) w := by
  obtain ⟨b', k', a', r', l', e⟩ := t_cl_all (.fz d) w xs [] .un .un .un .un .un h (by rw [List.length_nil]; omega)
  have e1 : ownM 1 lNil [.fz d, .un, .un, .un, .un, .un, .un] w = .ok (.nx [.fz d, .ow [], .un, .un, .un, .un, .un]) w := by
    unfold ownM
    rw [bk (show lNil [.fz d, .un, .un, .un, .un, .un, .un] w = .ok [] w from lnil_w _ _), if_pos (show ([] : List PyData).length ≤ sizeLine from zero_size)]
    rfl
  have e2 : forM (tgTup 2 (tgCons (tgN 2) (tgCons (tgN 3) tgNil))) (itM seqM' (varM 0)) clBody [.fz d, .ow [], .un, .un, .un, .un, .un] w = .ok (.nx [.fz d, .ow ((dd (xs.map cl)).map dL), b', k', a', r', l']) w := by
    have ei : itM seqM' (varM 0) [.fz d, .ow [], .un, .un, .un, .un, .un] w = .ok (xs.map dL) w := by
      rcases hd with rfl | rfl <;> rfl
    rw [for_w, ei]
    exact e
  have fz : frz 1 [.fz d, .ow ((dd (xs.map cl)).map dL), b', k', a', r', l'] = [.fz d, .fz (.list ((dd (xs.map cl)).map dL)), b', k', a', r', l'] := rfl
  have hl : (ddF [] (xs.map cl)).length ≤ 100000 := by
    have := ddL_len (xs.map cl) []
    rw [List.length_map, List.length_nil] at this
    omega
  have hs := encL.sortL (l := dd (xs.map cl)) (fun _ _ => True.intro) (by rw [sizeLine_eq]; show (ddF [] (xs.map cl)).length ≤ _; omega)
  have st : F_l_clean [.fz d] w = finR (m_l_clean [.fz d, .un, .un, .un, .un, .un, .un] w) := body_r _ _ _ _
  rw [st]
  unfold m_l_clean
  rw [seq_r, e1, seqR_nx, seq_r, e2, seqR_nx, fz, ret_r, fin_ret]
  simp [call_w, lcons_w, lnil_w, var_w, hs, tup_list, clean]
end Wh

namespace Wh
open PySem PySem.Spec PyProof.Rows L2

/-! ### the greatest and the least number of a row -/
theorem fmax_le : ∀ (ns : Vec) (n : Int), n ≤ ns.foldl max n ∧ ∀ i ∈ ns, i ≤ ns.foldl max n
  | [], n => ⟨Int.le_refl _, fun i hi => absurd hi (by simp)⟩
  | m :: ns, n => by
    obtain ⟨h1, h2⟩ := fmax_le ns (max n m)
    rw [List.foldl_cons]
    refine ⟨by omega, fun i hi => ?_⟩
    rcases List.mem_cons.mp hi with rfl | hi
    · omega
    · exact h2 i hi
theorem fmax_mem : ∀ (ns : Vec) (n : Int), ns.foldl max n = n ∨ ns.foldl max n ∈ ns
  | [], n => .inl rfl
  | m :: ns, n => by
    rw [List.foldl_cons]
    rcases fmax_mem ns (max n m) with h | h
    · by_cases q : n ≤ m
      · refine .inr ?_
        rw [h]
        have : max n m = m := by omega
        rw [this]
        simp
      · refine .inl ?_
        rw [h]
        omega
    · exact .inr (List.mem_cons_of_mem _ h)
theorem fmin_le : ∀ (ns : Vec) (n : Int), ns.foldl min n ≤ n ∧ ∀ i ∈ ns, ns.foldl min n ≤ i
  | [], n => ⟨Int.le_refl _, fun i hi => absurd hi (by simp)⟩
  | m :: ns, n => by
    obtain ⟨h1, h2⟩ := fmin_le ns (min n m)
    rw [List.foldl_cons]
    refine ⟨by omega, fun i hi => ?_⟩
    rcases List.mem_cons.mp hi with rfl | hi
    · omega
    · exact h2 i hi
theorem fmin_mem : ∀ (ns : Vec) (n : Int), ns.foldl min n = n ∨ ns.foldl min n ∈ ns
  | [], n => .inl rfl
  | m :: ns, n => by
    rw [List.foldl_cons]
    rcases fmin_mem ns (min n m) with h | h
    · by_cases q : m ≤ n
      · refine .inr ?_
        rw [h]
        have : min n m = m := by omega
        rw [this]
        simp
      · refine .inl ?_
        rw [h]
        omega
    · exact .inr (List.mem_cons_of_mem _ h)
theorem mx_le {v : Vec} {i : Int} (h : i ∈ v) : i ≤ mx v := by
  cases v with
  | nil => exact absurd h (by simp)
  | cons n ns =>
    rcases List.mem_cons.mp h with rfl | h
    · exact (fmax_le ns i).1
    · exact (fmax_le ns n).2 i h
theorem mx_mem {v : Vec} (h : v ≠ []) : mx v ∈ v := by
  cases v with
  | nil => exact absurd rfl h
  | cons n ns =>
    rcases fmax_mem ns n with e | e
    · show ns.foldl max n ∈ _
      rw [e]
      simp
    · exact List.mem_cons_of_mem _ e
theorem mn_le {v : Vec} {i : Int} (h : i ∈ v) : mn v ≤ i := by
  cases v with
  | nil => exact absurd h (by simp)
  | cons n ns =>
    rcases List.mem_cons.mp h with rfl | h
    · exact (fmin_le ns i).1
    · exact (fmin_le ns n).2 i h
theorem mn_mem {v : Vec} (h : v ≠ []) : mn v ∈ v := by
  cases v with
  | nil => exact absurd rfl h
  | cons n ns =>
    rcases fmin_mem ns n with e | e
    · show ns.foldl min n ∈ _
      rw [e]
      simp
    · exact List.mem_cons_of_mem _ e
theorem mn_nn {v : Vec} (h : v ≠ []) : 0 ≤ mn v ↔ ∀ i ∈ v, 0 ≤ i :=
  ⟨fun q i hi => Int.le_trans q (mn_le hi), fun q => q _ (mn_mem h)⟩
theorem all_zer : ∀ {v : Vec}, (∀ i ∈ v, i = 0) → v = zer v.length := by
  intro v h
  exact List.eq_replicate_iff.mpr ⟨rfl, h⟩
theorem pw_nodup {α : Type} {lt : α → α → Bool} (L : Lin1 lt) {l : List α} (h : l.Pairwise fun a b => lt a b = true) : l.Nodup :=
  h.imp fun {a b} q e => by
    subst e
    rw [L.ir] at q
    exact absurd q (by simp)
theorem pw_le {α : Type} {lt : α → α → Bool} (L : Lin1 lt) {l : List α} (h : l.Pairwise fun a b => lt a b = true) : l.Pairwise fun a b => leB lt a b = true :=
  h.imp fun {a b} q => by
    unfold leB
    cases e : lt b a with
    | false => rfl
    | true =>
      have := L.tr _ _ _ q e
      rw [L.ir] at this
      exact absurd this (by simp)
theorem okV_nn {n : Nat} {v : Vec} (h : okV n v) : ∀ i ∈ v, 0 ≤ i ∧ i ≤ 1000000000 := fun i hi => by
  have := h.2 i hi
  unfold okN at this
  simpa using this
theorem pos_ok {n : Nat} {l : Lin} (h1 : 1 ≤ n) (h : OkL n l) : ∀ v ∈ l.2, pos v = true := fun v hv => by
  have hp := h.p v hv
  have hc := (List.pairwise_cons.mp h.c).1 v hv
  unfold pos
  rw [decide_eq_true_eq]
  by_cases q : 0 < mx v
  · exact q
  · exfalso
    have : v = zer v.length := all_zer fun i hi => by
      have a := (okV_nn hp i hi).1
      have b := mx_le hi
      omega
    rw [hp.1] at this
    rw [this, lin_V.ir] at hc
    exact absurd hc (by simp)
theorem rows_self {n : Nat} {l : Lin} (h1 : 1 ≤ n) (h : OkL n l) : rowsD l.2 = l.2 := by
  unfold rowsD
  rw [List.filter_eq_self.mpr (pos_ok h1 h)]
  exact dd_self (pw_nodup lin_V (List.pairwise_cons.mp h.c).2)
theorem cl_self {n : Nat} {l : Lin} (h1 : 1 ≤ n) (h : OkL n l) : cl l = l := by
  unfold cl
  rw [rows_self h1 h, srt_self lin_V (pw_le lin_V (List.pairwise_cons.mp h.c).2)]
theorem clean_union {n : Nat} {ls ms : List Lin} (h1 : OkS n ls) (h2 : OkS n ms) : clean (ls ++ ms) = srt ltL (dd (ls ++ ms)) := by
  unfold clean
  have : (ls ++ ms).map cl = ls ++ ms := by
    rw [← List.map_id (ls ++ ms), List.map_map]
    refine List.map_congr_left fun x hx => ?_
    rcases List.mem_append.mp hx with q | q
    · exact cl_self h1.n1 (h1.l x q)
    · exact cl_self h1.n1 (h2.l x q)
  rw [this]
end Wh

namespace Wh
open PySem PySem.Spec PyProof.Rows L2

/-! ### clean lines as sets -/
theorem cl_ext {b : Vec} {r s : List Vec} (h : ∀ v, v ∈ r ↔ v ∈ s) : cl (b, r) = cl (b, s) := by
  unfold cl rowsD
  rw [sd_of lin_V (l := r.filter pos) (m := s.filter pos) fun v => by rw [List.mem_filter, List.mem_filter, h v]]
theorem clean_ext {xs ys : List Lin} (h : ∀ l, l ∈ xs.map cl ↔ l ∈ ys.map cl) : clean xs = clean ys := sd_of lin_L h
theorem mk_ok {x : Lin} (h1 : mx x.1 ≤ 1000000000) (h2 : (rowsD x.2).length ≤ 12) : mkL x = .ok (cl x) := by
  unfold mkL
  rw [if_neg (by omega), if_neg (by omega)]
theorem end_ok {n : Nat} {acc xs : List Lin} (w : LS) (h : ∀ x ∈ xs, mx x.1 ≤ 1000000000 ∧ (rowsD x.2).length ≤ 12) (hz : acc.length + xs.length ≤ 400) : endL n (goL acc xs) w = .ok (dS n (srt ltL (dd (acc ++ xs.map cl)))) w := by
  rw [goL_ok fun x hx => mk_ok (h x hx).1 (h x hx).2]
  have hl := ddL_len (acc ++ xs.map cl) []
  rw [List.length_append, List.length_map, List.length_nil] at hl
  unfold endL
  simp only
  rw [if_neg]
  show ¬ 400 < (ddF [] (acc ++ xs.map cl)).length
  omega
theorem sum_clean {n : Nat} {ls ms : List Lin} (w : LS) (h : ∀ x ∈ sums ls ms, mx x.1 ≤ 1000000000 ∧ (rowsD x.2).length ≤ 12) (hz : (sums ls ms).length ≤ 400) : endL n (goL [] (sums ls ms)) w = .ok (dS n (clean (sums ls ms))) w := by
  rw [end_ok w h (by rw [List.length_nil]; omega)]
  rfl
theorem cl_nil (b : Vec) : cl (b, []) = (b, []) := by
  have e : srt ltV (rowsD []) = [] := List.eq_nil_of_length_eq_zero (by rw [srt_len]; rfl)
  show (b, srt ltV (rowsD [])) = _
  rw [e]
theorem star_clean {n : Nat} {z : Vec} {xs : List Lin} (w : LS) (h : ∀ x ∈ xs, mx x.1 ≤ 1000000000 ∧ (rowsD x.2).length ≤ 12) (hz : xs.length ≤ 399) : endL n (goL [(z, [])] xs) w = .ok (dS n (clean ((z, []) :: xs))) w := by
  rw [end_ok w h (by rw [List.length_cons, List.length_nil]; omega)]
  unfold clean
  rw [List.map_cons, cl_nil]
  rfl
end Wh

namespace Wh
open PySem PySem.Spec PyProof.Rows L2

/-! ### the grid and the law's choices -/
def upTo : List Int := [0, 1, 2, 3, 4, 5, 6]
def grid : Nat → List Vec
  | 1 => upTo.map fun a => [a]
  | _ => (upTo.map fun a => upTo.map fun b => [a, b]).flatten
theorem t_grid1 (w : LS) : F_l_grid [.fz (.int 1), .fz (.int 7)] w = .ok (.list ((grid 1).map dV)) w := by kernel_rfl
theorem t_grid2 (w : LS) : F_l_grid [.fz (.int 2), .fz (.int 7)] w = .ok (.list ((grid 2).map dV)) w := by kernel_rfl
def dI (l : List Int) : PyData := .list (l.map .int)
def lchs : Nat → List (List Int)
  | 0 => []
  | 1 => [[0]]
  | 2 => [[0], [1], [0, 1]]
  | _ => [[0], [1], [0, 1], [2], [0, 2], [1, 2], [0, 1, 2]]
theorem t_lchs {k : Nat} (h : k ≤ 3) (w : LS) : F_l_choices [.fz (.int k)] w = .ok (.list ((lchs k).map dI)) w := by
  match k, h with
  | 0, _ => kernel_rfl
  | 1, _ => kernel_rfl
  | 2, _ => kernel_rfl
  | 3, _ => kernel_rfl
theorem lchs_mem {k : Nat} (h : k ≤ 3) : ∀ is, is ∈ lchs k ↔ is ∈ chs k := by
  have key : (lchs k).all (fun a => decide (a ∈ chs k)) = true ∧ (chs k).all (fun a => decide (a ∈ lchs k)) = true := by
    match k, h with
    | 0, _ => decide
    | 1, _ => decide
    | 2, _ => decide
    | 3, _ => decide
  intro is
  constructor
  · intro q
    have := List.all_eq_true.mp key.1 is q
    simpa using this
  · intro q
    have := List.all_eq_true.mp key.2 is q
    simpa using this
end Wh

namespace Wh
open PySem PySem.Spec PyProof.Rows L2

/-! ### sums of periods -/
theorem add_zer : ∀ (v : Vec), addV v (zer v.length) = v
  | [] => rfl
  | a :: v => by
    show (a + 0) :: addV v (zer v.length) = a :: v
    rw [add_zer v, Int.add_zero]
theorem addV_comm : ∀ (v u : Vec), addV v u = addV u v
  | [], [] => rfl
  | [], _ :: _ => rfl
  | _ :: _, [] => rfl
  | a :: v, b :: u => by
    show (a + b) :: addV v u = (b + a) :: addV u v
    rw [addV_comm v u, Int.add_comm]
theorem addV_assoc : ∀ (v u t : Vec), addV (addV v u) t = addV v (addV u t)
  | [], _, _ => rfl
  | _ :: _, [], _ => rfl
  | _ :: _, _ :: _, [] => rfl
  | a :: v, b :: u, c :: t => by
    show (a + b + c) :: addV (addV v u) t = (a + (b + c)) :: addV v (addV u t)
    rw [addV_assoc v u t, Int.add_assoc]
inductive Cone (n : Nat) (P : List Vec) : Vec → Prop where
  | zero : Cone n P (zer n)
  | add {v p : Vec} : Cone n P v → p ∈ P → Cone n P (addV v p)
theorem zer_len (n : Nat) : (zer n).length = n := by unfold zer; exact List.length_replicate
theorem Cone.len {n : Nat} {P : List Vec} (hP : ∀ p ∈ P, p.length = n) {v : Vec} (h : Cone n P v) : v.length = n := by
  induction h with
  | zero => exact zer_len n
  | add _ hp ih => exact addV_len ih (hP _ hp)
theorem Cone.sub {n : Nat} {P Q : List Vec} (hs : ∀ p ∈ P, p ∈ Q) {v : Vec} (h : Cone n P v) : Cone n Q v := by
  induction h with
  | zero => exact .zero
  | add _ hp ih => exact ih.add (hs _ hp)
theorem Cone.plus {n : Nat} {P : List Vec} (hP : ∀ p ∈ P, p.length = n) {v u : Vec} (h : Cone n P v) (k : Cone n P u) : Cone n P (addV v u) := by
  induction k with
  | zero =>
    have e := add_zer v
    rw [h.len hP] at e
    rw [e]
    exact h
  | add _ hp ih =>
    rw [← addV_assoc]
    exact ih.add hp
theorem Cone.one {n : Nat} {P : List Vec} (hP : ∀ p ∈ P, p.length = n) {p : Vec} (h : p ∈ P) : Cone n P p := by
  have := (Cone.zero (n := n) (P := P)).add h
  rw [addV_comm] at this
  have e := add_zer p
  rw [hP p h] at e
  rwa [e] at this
theorem cone_nil {n : Nat} {v : Vec} : Cone n [] v ↔ v = zer n := by
  constructor
  · intro h
    cases h with
    | zero => rfl
    | add _ hp => exact absurd hp (by simp)
  · rintro rfl
    exact .zero
/-- a member of the sums of two lists of periods is a sum of two members -/
theorem cone_append {n : Nat} {P Q : List Vec} (hP : ∀ p ∈ P, p.length = n) (hQ : ∀ p ∈ Q, p.length = n) {v : Vec} : Cone n (P ++ Q) v ↔ ∃ a b, Cone n P a ∧ Cone n Q b ∧ v = addV a b := by
  constructor
  · intro h
    induction h with
    | zero =>
      have e := add_zer (zer n)
      rw [zer_len] at e
      exact ⟨zer n, zer n, .zero, .zero, e.symm⟩
    | add _ hp ih =>
      obtain ⟨a, b, ha, hb, rfl⟩ := ih
      rcases List.mem_append.mp hp with q | q
      · refine ⟨_, b, ha.add q, hb, ?_⟩
        rw [addV_assoc, addV_comm b, ← addV_assoc]
      · refine ⟨a, _, ha, hb.add q, ?_⟩
        rw [addV_assoc]
  · rintro ⟨a, b, ha, hb, rfl⟩
    have hPQ : ∀ p ∈ P ++ Q, p.length = n := fun p hp => (List.mem_append.mp hp).elim (hP p) (hQ p)
    exact (ha.sub fun p hp => List.mem_append.mpr (.inl hp)).plus hPQ (hb.sub fun p hp => List.mem_append.mpr (.inr hp))
end Wh

namespace Wh
open PySem PySem.Spec PyProof.Rows L2

/-- n numbers, none below 0 -/
def Nn (n : Nat) (v : Vec) : Prop := v.length = n ∧ ∀ i ∈ v, 0 ≤ i
theorem nn_zero {n : Nat} {v : Vec} (h : Nn n v) (hp : pos v = false) : v = zer n := by
  have := all_zer (v := v) fun i hi => by
    have a := h.2 i hi
    have b := mx_le hi
    unfold pos at hp
    have c : ¬ 0 < mx v := by simpa using hp
    omega
  rw [h.1] at this
  exact this
/-- cleaning the rows keeps what they make -/
theorem cone_clean {n : Nat} {rows : List Vec} (h : ∀ v ∈ rows, Nn n v) {v : Vec} : Cone n (srt ltV (rowsD rows)) v ↔ Cone n rows v := by
  constructor
  · exact fun c => c.sub fun p hp => (List.mem_filter.mp (dd_mem.mp (srt_mem.mp hp))).1
  · intro c
    induction c with
    | zero => exact .zero
    | @add u p hc hp ih =>
      cases q : pos p with
      | true => exact ih.add (srt_mem.mpr (dd_mem.mpr (List.mem_filter.mpr ⟨hp, q⟩)))
      | false =>
        have hl := hc.len (fun p hp => (h p hp).1)
        have e := add_zer u
        rw [hl] at e
        rw [nn_zero (h p hp) q, e]
        exact ih
/-- the vectors of a line, of a set -/
def InL (n : Nat) (l : Lin) (v : Vec) : Prop := ∃ c, Cone n l.2 c ∧ v = addV l.1 c
def InS (n : Nat) (ls : List Lin) (v : Vec) : Prop := ∃ l ∈ ls, InL n l v
theorem inl_cl {n : Nat} {l : Lin} (h : ∀ v ∈ l.2, Nn n v) {v : Vec} : InL n (cl l) v ↔ InL n l v := by
  constructor
  · rintro ⟨c, hc, e⟩
    exact ⟨c, (cone_clean h).mp hc, e⟩
  · rintro ⟨c, hc, e⟩
    exact ⟨c, (cone_clean h).mpr hc, e⟩
theorem ins_clean {n : Nat} {xs : List Lin} (h : ∀ x ∈ xs, ∀ v ∈ x.2, Nn n v) {v : Vec} : InS n (clean xs) v ↔ InS n xs v := by
  unfold clean
  constructor
  · rintro ⟨l, hl, q⟩
    obtain ⟨x, hx, rfl⟩ := List.mem_map.mp (dd_mem.mp (srt_mem.mp hl))
    exact ⟨x, hx, (inl_cl (h x hx)).mp q⟩
  · rintro ⟨x, hx, q⟩
    exact ⟨cl x, srt_mem.mpr (dd_mem.mpr (List.mem_map.mpr ⟨x, hx, rfl⟩)), (inl_cl (h x hx)).mpr q⟩
theorem ins_union {n : Nat} {ls ms : List Lin} {v : Vec} : InS n (ls ++ ms) v ↔ InS n ls v ∨ InS n ms v := by
  constructor
  · rintro ⟨l, hl, q⟩
    rcases List.mem_append.mp hl with m | m
    · exact .inl ⟨l, m, q⟩
    · exact .inr ⟨l, m, q⟩
  · rintro (⟨l, hl, q⟩ | ⟨l, hl, q⟩)
    · exact ⟨l, List.mem_append.mpr (.inl hl), q⟩
    · exact ⟨l, List.mem_append.mpr (.inr hl), q⟩
theorem add_four (a b c d : Vec) : addV (addV a b) (addV c d) = addV (addV a c) (addV b d) := by
  rw [addV_assoc, addV_assoc, ← addV_assoc b, addV_comm b c, addV_assoc c]
theorem inl_sum {n : Nat} {a b : Lin} (ha : ∀ v ∈ a.2, v.length = n) (hb : ∀ v ∈ b.2, v.length = n) {v : Vec} : InL n (sumX a b) v ↔ ∃ x y, InL n a x ∧ InL n b y ∧ v = addV x y := by
  constructor
  · rintro ⟨c, hc, rfl⟩
    obtain ⟨p, q, hp, hq, rfl⟩ := (cone_append ha hb).mp hc
    exact ⟨addV a.1 p, addV b.1 q, ⟨p, hp, rfl⟩, ⟨q, hq, rfl⟩, add_four _ _ _ _⟩
  · rintro ⟨_, _, ⟨p, hp, rfl⟩, ⟨q, hq, rfl⟩, rfl⟩
    exact ⟨addV p q, (cone_append ha hb).mpr ⟨p, q, hp, hq, rfl⟩, add_four _ _ _ _⟩
theorem ins_sum {n : Nat} {ls ms : List Lin} (hl : ∀ x ∈ ls, ∀ v ∈ x.2, v.length = n) (hm : ∀ x ∈ ms, ∀ v ∈ x.2, v.length = n) {v : Vec} : InS n (sums ls ms) v ↔ ∃ x y, InS n ls x ∧ InS n ms y ∧ v = addV x y := by
  constructor
  · rintro ⟨l, hs, q⟩
    unfold sums at hs
    obtain ⟨a, ha, hs⟩ := List.mem_flatMap.mp hs
    obtain ⟨b, hb, rfl⟩ := List.mem_map.mp hs
    obtain ⟨x, y, hx, hy, e⟩ := (inl_sum (hl a ha) (hm b hb)).mp q
    exact ⟨x, y, ⟨a, ha, hx⟩, ⟨b, hb, hy⟩, e⟩
  · rintro ⟨x, y, ⟨a, ha, hx⟩, ⟨b, hb, hy⟩, e⟩
    refine ⟨sumX a b, ?_, (inl_sum (hl a ha) (hm b hb)).mpr ⟨x, y, hx, hy, e⟩⟩
    unfold sums
    exact List.mem_flatMap.mpr ⟨a, ha, List.mem_map.mpr ⟨b, hb, rfl⟩⟩
end Wh

namespace Wh
open PySem PySem.Spec PyProof.Rows L2

/-! ### fills -/
def down (p : Vec) : Nat → Vec → Vec
  | 0, v => v
  | k + 1, v => down p k (subV v p)
def fl : List Vec → Vec → Bool
  | [], v => decide (0 ≤ mn v) && decide (mx v = 0)
  | p :: ps, v => decide (0 ≤ mn v) && (decide (mx v = 0) || (List.range (mx v + 1).toNat).any fun k => decide (0 ≤ mn (down p k v)) && fl ps (down p k v))
theorem subV_len {v u : Vec} {n : Nat} (h1 : v.length = n) (h2 : u.length = n) : (subV v u).length = n := by
  unfold subV
  rw [List.length_zipWith, h1, h2, Nat.min_self]
theorem sub_add : ∀ (v p : Vec), v.length = p.length → addV (subV v p) p = v
  | [], _, _ => by simp [addV, subV]
  | a :: v, [], h => by simp at h
  | a :: v, b :: p, h => by
    have ih := sub_add v p (by simpa using h)
    show (a - b + b) :: addV (subV v p) p = a :: v
    rw [ih, Int.sub_add_cancel]
theorem add_sub : ∀ (v p : Vec), v.length = p.length → subV (addV v p) p = v
  | [], _, _ => by simp [addV, subV]
  | a :: v, [], h => by simp at h
  | a :: v, b :: p, h => by
    have ih := add_sub v p (by simpa using h)
    show (a + b - b) :: subV (addV v p) p = a :: v
    rw [ih, Int.add_sub_cancel]
theorem down_len {n : Nat} {p : Vec} (hp : p.length = n) : ∀ (k : Nat) {v : Vec}, v.length = n → (down p k v).length = n
  | 0, v, h => h
  | k + 1, v, h => down_len hp k (subV_len h hp)
/-- what is left makes the whole -/
theorem down_cone {n : Nat} {P : List Vec} {p : Vec} (hp : p.length = n) (hm : p ∈ P) : ∀ (k : Nat) {v : Vec}, v.length = n → Cone n P (down p k v) → Cone n P v
  | 0, v, _, c => c
  | k + 1, v, h, c => by
    have := (down_cone hp hm k (subV_len h hp) c).add hm
    rwa [sub_add v p (by rw [h, hp])] at this
theorem fl_cone {n : Nat} (h1 : 1 ≤ n) : ∀ {P : List Vec} {v : Vec}, (∀ p ∈ P, p.length = n) → v.length = n → fl P v = true → Cone n P v := by
  intro P
  induction P with
  | nil =>
    intro v _ hv h
    rw [fl, Bool.and_eq_true, decide_eq_true_eq, decide_eq_true_eq] at h
    have : v = zer v.length := all_zer fun i hi => by
      have a := mn_le hi
      have b := mx_le hi
      omega
    rw [this, hv]
    exact .zero
  | cons p ps ih =>
    intro v hP hv h
    rw [fl, Bool.and_eq_true, Bool.or_eq_true, decide_eq_true_eq, decide_eq_true_eq] at h
    obtain ⟨hn, h | h⟩ := h
    · have : v = zer v.length := all_zer fun i hi => by
        have a := mn_le hi
        have b := mx_le hi
        omega
      rw [this, hv]
      exact .zero
    · obtain ⟨k, _, hk⟩ := List.any_eq_true.mp h
      rw [Bool.and_eq_true] at hk
      have hp := hP p (by simp)
      refine down_cone hp (by simp) k hv ?_
      exact (ih (fun q hq => hP q (List.mem_cons_of_mem _ hq)) (down_len hp k hv) hk.2).sub fun q hq => List.mem_cons_of_mem _ hq
end Wh

namespace Wh
open PySem PySem.Spec PyProof.Rows L2

theorem sub_adds : ∀ (v q p : Vec), subV (addV v q) p = addV (subV v p) q
  | [], _, _ => by simp [addV, subV]
  | _ :: _, [], _ => by simp [addV, subV]
  | _ :: _, _ :: _, [] => by simp [addV, subV]
  | a :: v, b :: q, c :: p => by
    have ih := sub_adds v q p
    show (a + b - c) :: subV (addV v q) p = (a - c + b) :: addV (subV v p) q
    rw [ih]
    congr 1
    omega
theorem down_add (p q : Vec) : ∀ (k : Nat) (v : Vec), down p k (addV v q) = addV (down p k v) q
  | 0, v => rfl
  | k + 1, v => by
    show down p k (subV (addV v q) p) = addV (down p k (subV v p)) q
    rw [sub_adds, down_add p q k]
theorem cone_cons {n : Nat} {p : Vec} {ps : List Vec} (hP : ∀ q ∈ p :: ps, q.length = n) {v : Vec} (h : Cone n (p :: ps) v) : ∃ k, Cone n ps (down p k v) := by
  induction h with
  | zero => exact ⟨0, .zero⟩
  | @add u q hc hq ih =>
    obtain ⟨k, ih⟩ := ih
    rcases List.mem_cons.mp hq with rfl | m
    · refine ⟨k + 1, ?_⟩
      show Cone n ps (down q k (subV (addV u q) q))
      rw [add_sub u q (by rw [hc.len hP, hP q (by simp)])]
      exact ih
    · refine ⟨k, ?_⟩
      rw [down_add]
      exact ih.add m
theorem Cone.nn {n : Nat} {P : List Vec} (hP : ∀ p ∈ P, Nn n p) {v : Vec} (h : Cone n P v) : Nn n v := by
  induction h with
  | zero => exact ⟨zer_len n, fun i hi => by rw [List.eq_of_mem_replicate hi]; exact Int.le_refl _⟩
  | @add u q hc hq ih =>
    refine ⟨addV_len ih.1 (hP q hq).1, fun i hi => ?_⟩
    unfold addV at hi
    obtain ⟨j, hj, rfl⟩ := List.getElem_of_mem hi
    rw [List.getElem_zipWith]
    rw [List.length_zipWith] at hj
    have a := ih.2 _ (List.getElem_mem (l := u) (n := j) (by omega))
    have b := (hP q hq).2 _ (List.getElem_mem (l := q) (n := j) (by omega))
    omega
theorem down_get {n : Nat} {p : Vec} (hp : p.length = n) (j : Nat) (hj : j < n) : ∀ (k : Nat) (v : Vec) (hv : v.length = n), (down p k v)[j]'(by rw [down_len hp k hv]; exact hj) = v[j]'(by omega) - k * p[j]'(by omega)
  | 0, v, hv => by simp [down]
  | k + 1, v, hv => by
    have ih := down_get hp j hj k (subV v p) (subV_len hv hp)
    have e : (subV v p)[j]'(by rw [subV_len hv hp]; exact hj) = v[j]'(by omega) - p[j]'(by omega) := by
      unfold subV
      rw [List.getElem_zipWith]
    show (down p k (subV v p))[j]'(by rw [down_len hp k (subV_len hv hp)]; exact hj) = _
    rw [ih, e]
    push_cast
    rw [Int.add_mul]
    omega
/-- no more steps than the greatest number -/
theorem down_few {n : Nat} {p v : Vec} (hp : Nn n p) (hq : pos p = true) (hn : p ≠ []) (hv : v.length = n) {k : Nat} (h : ∀ i ∈ down p k v, 0 ≤ i) : (k : Int) ≤ mx v := by
  have hm := mx_mem hn
  obtain ⟨j, hj, e⟩ := List.getElem_of_mem hm
  have hj' : j < n := by rw [← hp.1]; exact hj
  have a := down_get hp.1 j hj' k v hv
  have b := h _ (List.getElem_mem (l := down p k v) (n := j) (by rw [down_len hp.1 k hv]; exact hj'))
  have c := mx_le (List.getElem_mem (l := v) (n := j) (by omega))
  unfold pos at hq
  rw [decide_eq_true_eq, ← e] at hq
  have d : (k : Int) * 1 ≤ k * p[j] := Int.mul_le_mul_of_nonneg_left (by omega) (by omega)
  rw [Int.mul_one] at d
  omega
end Wh

namespace Wh
open PySem PySem.Spec PyProof.Rows L2

theorem cone_fl {n : Nat} (h1 : 1 ≤ n) : ∀ {P : List Vec} {v : Vec}, (∀ p ∈ P, Nn n p ∧ pos p = true) → Cone n P v → fl P v = true := by
  intro P
  induction P with
  | nil =>
    intro v _ h
    have hv := h.nn (fun p hp => absurd hp (by simp))
    have hne := ne_of_len hv.1 h1
    rw [cone_nil.mp h]
    rw [cone_nil.mp h] at hne
    have a : mn (zer n) = 0 := List.eq_of_mem_replicate (mn_mem hne)
    have b : mx (zer n) = 0 := List.eq_of_mem_replicate (mx_mem hne)
    rw [fl, a, b]
    rfl
  | cons p ps ih =>
    intro v hP h
    have hN : ∀ q ∈ p :: ps, Nn n q := fun q hq => (hP q hq).1
    have hv := h.nn hN
    have hne := ne_of_len hv.1 h1
    obtain ⟨k, hk⟩ := cone_cons (fun q hq => (hN q hq).1) h
    have hps : ∀ q ∈ ps, Nn n q ∧ pos q = true := fun q hq => hP q (List.mem_cons_of_mem _ hq)
    have hd := hk.nn fun q hq => (hps q hq).1
    have hp := hP p (by simp)
    have few := down_few hp.1 hp.2 (ne_of_len hp.1.1 h1) hv.1 hd.2
    rw [fl, Bool.and_eq_true, Bool.or_eq_true, decide_eq_true_eq]
    refine ⟨(mn_nn hne).mpr hv.2, .inr (List.any_eq_true.mpr ⟨k, List.mem_range.mpr (by omega), ?_⟩)⟩
    rw [Bool.and_eq_true, decide_eq_true_eq]
    exact ⟨(mn_nn (ne_of_len hd.1 h1)).mpr hd.2, ih hps hk⟩
theorem fl_iff {n : Nat} (h1 : 1 ≤ n) {P : List Vec} {v : Vec} (hP : ∀ p ∈ P, Nn n p ∧ pos p = true) (hv : v.length = n) : fl P v = true ↔ Cone n P v :=
  ⟨fl_cone h1 (fun p hp => (hP p hp).1.1) hv, cone_fl h1 hP⟩
end Wh

namespace Wh
open PySem PySem.Spec PyProof.Rows L2

theorem down_succ (p : Vec) : ∀ (k : Nat) (v : Vec), down p (k + 1) v = subV (down p k v) p
  | 0, v => rfl
  | k + 1, v => down_succ p k (subV v p)
theorem eq_T0 (P : List Vec) (w : LS) : eqD (.tuple (P.map dV)) (.tuple []) w = .ok (.bool P.isEmpty) w := by
  have a := encV.shT P
  have b := encV.shT (α := Vec) []
  rw [List.map_nil] at b
  unfold eqD eqvD
  rw [if_pos ⟨a, b⟩]
  cases P with
  | nil => rfl
  | cons p P => rfl
abbrev flRho (v : Vec) (p : Vec) (P : List Vec) (h : Vec) (s a b : Sl) : Ev := [.fz (dV v), .fz (.tuple ((p :: P).map dV)), .fz (dV h), s, a, b]
abbrev flLess : Ev → M Fl := setM 2 (callM tupleD (lCons (lcM [4, 5] (tgTup 2 (tgCons (tgN 4) (tgCons (tgN 5) tgNil))) (zipM (lCons (varM 2) (lCons (opM ixD (varM 1) (kI 0)) lNil))) yesM (opM subD (varM 4) (varM 5))) lNil))
theorem t_fl_less (v p : Vec) (P : List Vec) (h : Vec) (s a b : Sl) (w : LS) (hz : h.length ≤ sizeLine) : flLess (flRho v p P h s a b) w = .ok (.nx (flRho v p P (subV h p) s a b)) w := by
  have lc := lc_w (g := tgTup 2 (tgCons (tgN 4) (tgCons (tgN 5) tgNil))) (vs := [4, 5]) (ft := yesM) (fe := opM subD (varM 4) (varM 5)) (ρ := flRho v p P h s a b) (w := w) pr (fun _ => true) (fun p => .int (p.1 - p.2)) (h.zip p) fun x hx => by
    refine ⟨flRho v p P h s (.fz (.int x.1)) (.fz (.int x.2)), rfl, rfl, fun _ => ?_⟩
    have a1 : subD (.int x.1) (.int x.2) w = .ok (.int (x.1 - x.2)) w := rfl
    simp [op_w, var_w, a1]
  rw [List.filter_eq_self.mpr (fun _ _ => rfl)] at lc
  have e2 : ((h.zip p).map fun p : Int × Int => PyData.int (p.1 - p.2)) = (subV h p).map .int := by
    unfold subV
    rw [← List.map_uncurry_zip_eq_zipWith, List.map_map]
    rfl
  rw [e2] at lc
  have zi : zipM (lCons (varM 2) (lCons (opM ixD (varM 1) (kI 0)) lNil)) (flRho v p P h s a b) w = .ok ((h.zip p).map pr) w := by
    have ix : ixD (.tuple ((p :: P).map dV)) (.int 0) w = .ok (dV p) w := by
      have e : L2.atI ((p :: P).map dV) ((0 : Nat) : Int) = some (dV p) := L2.atI_nat rfl
      show (match L2.atI ((p :: P).map dV) ((0 : Nat) : Int) with | some d => pure d | none => M.no : M PyData) w = _
      rw [e]
      rfl
    have l2 : lCons (varM 2) (lCons (opM ixD (varM 1) (kI 0)) lNil) (flRho v p P h s a b) w = .ok [dV h, dV p] w := by
      rw [List.map_cons] at ix
      simp [lcons_w, lnil_w, op_w, var_w, kI_w, ix]
    unfold zipM
    rw [bk l2]
    show R.ok (zipD (h.map .int) (p.map .int)) w = _
    rw [zip_d]
  have hz' : ((h.zip p).map pr).length ≤ sizeLine := by
    rw [List.length_map, List.length_zip]
    omega
  have hl : lcM [4, 5] (tgTup 2 (tgCons (tgN 4) (tgCons (tgN 5) tgNil))) (zipM (lCons (varM 2) (lCons (opM ixD (varM 1) (kI 0)) lNil))) yesM (opM subD (varM 4) (varM 5)) (flRho v p P h s a b) w = .ok (.list ((subV h p).map .int)) w := by
    unfold lcM
    rw [bk zi, if_pos hz', bk lc]
    rfl
  have tl : ∀ w, tupleD [.list ((subV h p).map .int)] w = .ok (dV (subV h p)) w := fun _ => rfl
  unfold flLess
  rw [set_w]
  simp [call_w, lcons_w, lnil_w, hl, tl]
end Wh

namespace Wh
open PySem PySem.Spec PyProof.Rows L2

/-! ### fills -/
theorem cut_one (d : PyData) (ds : List PyData) : cutD (d :: ds) (some 1) none = ds := by
  have e : HT.sIx (d :: ds).length 0 (some 1) = 1 := by
    show (if (1 : Int) < 0 then ((1 : Int) + ((d :: ds).length : Int)).toNat else min (1 : Int).toNat (d :: ds).length) = 1
    rw [if_neg (by decide), List.length_cons]
    show min 1 (ds.length + 1) = 1
    omega
  unfold cutD
  rw [e]
  show (ds.take ((d :: ds).length - 1)) = ds
  rw [List.length_cons]
  exact List.take_of_length_le (by omega)
theorem mx_sub {n : Nat} {v p : Vec} (h1 : 1 ≤ n) (hv : v.length = n) (hp : Nn n p) : mx (subV v p) ≤ mx v := by
  have hl := subV_len hv hp.1
  have hm := mx_mem (ne_of_len hl h1)
  obtain ⟨j, hj, e⟩ := List.getElem_of_mem hm
  rw [← e]
  unfold subV at hj ⊢
  rw [List.getElem_zipWith]
  rw [List.length_zipWith] at hj
  have a := mx_le (List.getElem_mem (l := v) (n := j) (by omega))
  have b := hp.2 _ (List.getElem_mem (l := p) (n := j) (by omega))
  omega
abbrev flIn (Fr : List Sl → M PyData) : Ev → M Fl := seqM (iffM (andM (testM (opM geD (callM minD (lCons (varM 2) lNil)) (kI 0))) (testM (defM (lenM 2 Fr) (aCons (varM 2) (aCons (sliceM (varM 1) (some 1) none) aNil))))) (retM (kT true)) skipM) flLess
theorem ge_ii (a b : Int) (w : LS) : geD (.int a) (.int b) w = .ok (.bool (decide (b ≤ a))) w := rfl
theorem t_fl_step {n : Nat} (h1 : 1 ≤ n) (h4 : n ≤ 4) (Fr : List Sl → M PyData) (v p : Vec) (P : List Vec) (hp : Nn n p) (w : LS) (B : Int) (hF : ∀ u : Vec, u.length = n → mx u ≤ B → Fr [.fz (dV u), .fz (.tuple (P.map dV))] w = .ok (.bool (fl P u)) w) (h : Vec) (hh : h.length = n) (hB : mx h ≤ B) (s a b : Sl) :
    flIn Fr (flRho v p P h s a b) w = if decide (0 ≤ mn h) && fl P h then .ok (.rt (.bool true)) w else .ok (.nx (flRho v p P (subV h p) s a b)) w := by
  have hm := min_V (ne_of_len hh h1) w
  have g1 : testM (opM geD (callM minD (lCons (varM 2) lNil)) (kI 0)) (flRho v p P h s a b) w = .ok (decide (0 ≤ mn h)) w := by
    refine test_of ?_
    simp [op_w, call_w, lcons_w, lnil_w, var_w, hm, kI_w, ge_ii]
  have sl : sliceM (varM 1) (some 1) none (flRho v p P h s a b) w = .ok (.tuple (P.map dV)) w := by
    have e : sliceM (varM 1) (some 1) none (flRho v p P h s a b) w = .ok (.tuple (cutD ((p :: P).map dV) (some 1) none)) w := rfl
    rw [e, List.map_cons, cut_one]
  have g2 : testM (defM (lenM 2 Fr) (aCons (varM 2) (aCons (sliceM (varM 1) (some 1) none) aNil))) (flRho v p P h s a b) w = .ok (fl P h) w := by
    refine test_of ?_
    have ev : varM 2 (flRho v p P h s a b) w = .ok (dV h) w := rfl
    simp only [def_w, acons_w, anil_w, sl, ev, len_w, List.length_cons, List.length_nil, if_true, hF h hh hB]
  have fle := t_fl_less v p P h s a b w (size_of_800 (by omega))
  unfold flIn
  rw [seq_r]
  cases q : decide (0 ≤ mn h) with
  | false =>
    rw [iff_f (and_f (g1.trans (by rw [q]))), skip_w, seqR_nx, fle]
    rfl
  | true =>
    cases q2 : fl P h with
    | false =>
      rw [iff_f ((and_t (g1.trans (by rw [q]))).trans (g2.trans (by rw [q2]))), skip_w, seqR_nx, fle]
      rfl
    | true =>
      rw [iff_t ((and_t (g1.trans (by rw [q]))).trans (g2.trans (by rw [q2])))]
      rfl
theorem any_succ (f : Nat → Bool) (n : Nat) : (List.range (n + 1)).any f = (f 0 || (List.range n).any fun k => f (k + 1)) := by
  rw [List.range_succ_eq_map, List.any_cons, List.any_map]
  rfl
theorem t_fl_loop {n : Nat} (h1 : 1 ≤ n) (h4 : n ≤ 4) (Fr : List Sl → M PyData) (v p : Vec) (P : List Vec) (hp : Nn n p) (w : LS) (B : Int) (hF : ∀ u : Vec, u.length = n → mx u ≤ B → Fr [.fz (dV u), .fz (.tuple (P.map dV))] w = .ok (.bool (fl P u)) w) : ∀ (ds : List PyData) (h : Vec) (s a b : Sl), h.length = n → mx h ≤ B →
    ((List.range ds.length).any fun k => decide (0 ≤ mn (down p k h)) && fl P (down p k h)) = true ∧ forL (tgN 3) (flIn Fr) ds (flRho v p P h s a b) w = .ok (.rt (.bool true)) w ∨
    ((List.range ds.length).any fun k => decide (0 ≤ mn (down p k h)) && fl P (down p k h)) = false ∧ ∃ h' s', forL (tgN 3) (flIn Fr) ds (flRho v p P h s a b) w = .ok (.nx (flRho v p P h' s' a b)) w
  | [], h, s, a, b, _, _ => .inr ⟨rfl, h, s, rfl⟩
  | d :: ds, h, s, a, b, hh, hB => by
    have fc := forL_cons (tgN 3) (flIn Fr) d ds (flRho v p P h s a b) (flRho v p P h (.fz d) a b) w rfl
    rw [t_fl_step h1 h4 Fr v p P hp w B hF h hh hB (.fz d) a b] at fc
    rw [List.length_cons, any_succ]
    have e0 : (decide (0 ≤ mn (down p 0 h)) && fl P (down p 0 h)) = (decide (0 ≤ mn h) && fl P h) := rfl
    have es : (fun k => decide (0 ≤ mn (down p (k + 1) h)) && fl P (down p (k + 1) h)) = fun k => decide (0 ≤ mn (down p k (subV h p))) && fl P (down p k (subV h p)) := rfl
    rw [e0, es, fc]
    cases q : decide (0 ≤ mn h) && fl P h with
    | true => exact .inl ⟨rfl, rfl⟩
    | false =>
      rcases t_fl_loop h1 h4 Fr v p P hp w B hF ds (subV h p) (.fz d) a b (subV_len hh hp.1) (Int.le_trans (mx_sub h1 hh hp) hB) with ⟨r1, r2⟩ | ⟨r1, h', s', r2⟩
      · exact .inl ⟨by rw [r1]; rfl, r2⟩
      · exact .inr ⟨by rw [r1]; rfl, h', s', r2⟩
theorem lt_ii (a b : Int) (w : LS) : ltD (.int a) (.int b) w = .ok (.bool (decide (a < b))) w := rfl
theorem or_t {f g : Ev → M Bool} {ρ : Ev} {w w' : LS} (h : f ρ w = .ok true w') : orM f g ρ w = .ok true w' := by rw [or_w, h]
theorem or_f {f g : Ev → M Bool} {ρ : Ev} {w w' : LS} (h : f ρ w = .ok false w') : orM f g ρ w = g ρ w' := by rw [or_w, h]
theorem fl_neg {P : List Vec} {v : Vec} (h : ¬ 0 ≤ mn v) : fl P v = false := by
  cases P <;> simp [fl, h]
theorem fl_zero {P : List Vec} {v : Vec} (h : 0 ≤ mn v) (h0 : mx v = 0) : fl P v = true := by
  cases P <;> simp [fl, h, h0]
abbrev fl0 (v : Vec) (P : List Vec) : Ev := [.fz (dV v), .fz (.tuple (P.map dV)), .un, .un, .un, .un]
theorem t_fills {n : Nat} (h1 : 1 ≤ n) (h4 : n ≤ 4) (w : LS) : ∀ (k : Nat) (P : List Vec) (v : Vec), P.length < k → (∀ p ∈ P, Nn n p) → v.length = n → mx v ≤ 1000000 → F_l_fills k [.fz (dV v), .fz (.tuple (P.map dV))] w = .ok (.bool (fl P v)) w
  | 0, P, v, hk, _, _, _ => absurd hk (by omega)
  | k + 1, P, v, hk, hP, hv, hB => by
    have hne := ne_of_len hv h1
    have hm := min_V hne w
    have hx := max_V hne w
    have st : F_l_fills (k + 1) [.fz (dV v), .fz (.tuple (P.map dV))] w = finR (m_l_fills (F_l_fills k) (fl0 v P) w) := body_r _ _ _ _
    rw [st]
    unfold m_l_fills
    have ex : callM maxD (lCons (varM 0) lNil) (fl0 v P) w = .ok (.int (mx v)) w := by simp [call_w, lcons_w, lnil_w, var_w, hx]
    have g1 : testM (opM ltD (callM minD (lCons (varM 0) lNil)) (kI 0)) (fl0 v P) w = .ok (decide (mn v < 0)) w := by
      refine test_of ?_
      simp [op_w, call_w, lcons_w, lnil_w, var_w, hm, kI_w, lt_ii]
    by_cases q0 : 0 ≤ mn v
    · have e1 : decide (mn v < 0) = false := decide_eq_false (by omega)
      rw [e1] at g1
      rw [seq_r, iff_f g1, skip_w, seqR_nx]
      have ez : opM eqD (callM maxD (lCons (varM 0) lNil)) (kI 0) (fl0 v P) w = .ok (.bool (decide (mx v = 0))) w := by
        simp only [op_w, ex, kI_w, eq_ii]
      have g2 : testM (opM eqD (callM maxD (lCons (varM 0) lNil)) (kI 0)) (fl0 v P) w = .ok (decide (mx v = 0)) w := test_of ez
      have g3 : testM (opM eqD (varM 1) (tupM lNil)) (fl0 v P) w = .ok P.isEmpty w := by
        refine test_of ?_
        have ev : varM 1 (fl0 v P) w = .ok (.tuple (P.map dV)) w := rfl
        have et : tupM lNil (fl0 v P) w = .ok (.tuple []) w := by simp [tup_w, lnil_w, zero_size]
        simp only [op_w, ev, et, eq_T0]
      by_cases qz : mx v = 0
      · rw [decide_eq_true qz] at g2 ez
        rw [seq_r, iff_t (or_t g2), ret_r, ez, fl_zero q0 qz]
        rfl
      · rw [decide_eq_false qz] at g2 ez
        cases P with
        | nil =>
          rw [seq_r, iff_t ((or_f g2).trans g3), ret_r, ez]
          have : fl [] v = false := by simp [fl, qz]
          rw [this]
          rfl
        | cons p P =>
          rw [seq_r, iff_f ((or_f g2).trans g3), skip_w, seqR_nx]
          have e2 : setM 2 (varM 0) (fl0 v (p :: P)) w = .ok (.nx (flRho v p P v .un .un .un)) w := rfl
          rw [seq_r, e2, seqR_nx, seq_r, for_w]
          have hpos : 0 ≤ mx v := Int.le_trans q0 (mx_le (mn_mem hne))
          have er : rng1M (lCons (opM addD (callM maxD (lCons (varM 0) lNil)) (kI 1)) lNil) (flRho v p P v .un .un .un) w = .ok (rngD 0 (mx v + 1).toNat) w := by
            have ex' : callM maxD (lCons (varM 0) lNil) (flRho v p P v .un .un .un) w = .ok (.int (mx v)) w := by simp [call_w, lcons_w, lnil_w, var_w, hx]
            have ea : addD (.int (mx v)) (.int 1) w = .ok (.int (mx v + 1)) w := rfl
            have el : lCons (opM addD (callM maxD (lCons (varM 0) lNil)) (kI 1)) lNil (flRho v p P v .un .un .un) w = .ok [.int (mx v + 1)] w := by
              simp only [lcons_w, lnil_w, op_w, ex', kI_w, ea]
            unfold rng1M
            rw [bk el]
            show (if -(2 ^ 62) ≤ mx v + 1 ∧ mx v + 1 < 2 ^ 62 then pure (rngD 0 (mx v + 1).toNat) else M.no : M (List PyData)) w = _
            rw [if_pos ⟨by omega, by omega⟩]
            rfl
          rw [er]
          simp only
          have hp := hP p (by simp)
          have hl : (rngD 0 (mx v + 1).toNat).length = (mx v + 1).toNat := by
            unfold rngD
            rw [List.length_map, List.length_range]
          have ih : ∀ u : Vec, u.length = n → mx u ≤ 1000000 → F_l_fills k [.fz (dV u), .fz (.tuple (P.map dV))] w = .ok (.bool (fl P u)) w := fun u hu hb =>
            t_fills h1 h4 w k P u (by rw [List.length_cons] at hk; omega) (fun p hp => hP p (List.mem_cons_of_mem _ hp)) hu hb
          have ef : fl (p :: P) v = (List.range (mx v + 1).toNat).any fun k => decide (0 ≤ mn (down p k v)) && fl P (down p k v) := by
            rw [fl, decide_eq_true q0, decide_eq_false qz, Bool.true_and, Bool.false_or]
          rcases t_fl_loop h1 h4 (F_l_fills k) v p P hp w 1000000 ih (rngD 0 (mx v + 1).toNat) v .un .un .un hv hB with ⟨r1, r2⟩ | ⟨r1, h', s', r2⟩
          · rw [hl] at r1
            rw [ef, r1]
            show finR (seqR (forL (tgN 3) (flIn (F_l_fills k)) (rngD 0 (mx v + 1).toNat) (flRho v p P v .un .un .un) w) _) = _
            rw [r2]
            rfl
          · rw [hl] at r1
            rw [ef, r1]
            show finR (seqR (forL (tgN 3) (flIn (F_l_fills k)) (rngD 0 (mx v + 1).toNat) (flRho v p P v .un .un .un) w) _) = _
            rw [r2, seqR_nx]
            rfl
    · have e1 : decide (mn v < 0) = true := decide_eq_true (by omega)
      rw [e1] at g1
      rw [seq_r, iff_t g1, fl_neg q0]
      rfl

/-! ### has -/
def hasB (ls : List Lin) (v : Vec) : Bool := ls.any fun l => fl l.2 (subV v l.1)
abbrev hasIn : Ev → M Fl := iffM (testM (defM (lenM 2 (F_l_fills 14)) (aCons (callM tupleD (lCons (lcM [4, 5] (tgTup 2 (tgCons (tgN 4) (tgCons (tgN 5) tgNil))) (zipM (lCons (varM 1) (lCons (varM 2) lNil))) yesM (opM subD (varM 4) (varM 5))) lNil)) (aCons (varM 3) aNil)))) (retM (kT true)) skipM
theorem t_has_loop {n : Nat} (h1 : 1 ≤ n) (h4 : n ≤ 4) (o : Sl) (v : Vec) (hv : v.length = n) (hB : mx v ≤ 1000000) (w : LS) (a b : Sl) : ∀ (ls : List Lin) (x y : Sl), (∀ l ∈ ls, Nn n l.1 ∧ (∀ p ∈ l.2, Nn n p) ∧ l.2.length ≤ 12) →
    hasB ls v = true ∧ forL (tgTup 2 (tgCons (tgN 2) (tgCons (tgN 3) tgNil))) hasIn (ls.map dL) [o, .fz (dV v), x, y, a, b] w = .ok (.rt (.bool true)) w ∨
    hasB ls v = false ∧ ∃ x' y', forL (tgTup 2 (tgCons (tgN 2) (tgCons (tgN 3) tgNil))) hasIn (ls.map dL) [o, .fz (dV v), x, y, a, b] w = .ok (.nx [o, .fz (dV v), x', y', a, b]) w
  | [], x, y, _ => .inr ⟨rfl, x, y, rfl⟩
  | l :: ls, x, y, h => by
    obtain ⟨hl1, hl2, hl3⟩ := h l (by simp)
    have fc := forL_cons (tgTup 2 (tgCons (tgN 2) (tgCons (tgN 3) tgNil))) hasIn (dL l) (ls.map dL) [o, .fz (dV v), x, y, a, b] [o, .fz (dV v), .fz (dV l.1), .fz (.tuple (l.2.map dV)), a, b] w rfl
    have lc := lc_w (g := tgTup 2 (tgCons (tgN 4) (tgCons (tgN 5) tgNil))) (vs := [4, 5]) (ft := yesM) (fe := opM subD (varM 4) (varM 5)) (ρ := [o, .fz (dV v), .fz (dV l.1), .fz (.tuple (l.2.map dV)), a, b]) (w := w) pr (fun _ => true) (fun p => .int (p.1 - p.2)) (v.zip l.1) fun z hz => by
      refine ⟨[o, .fz (dV v), .fz (dV l.1), .fz (.tuple (l.2.map dV)), .fz (.int z.1), .fz (.int z.2)], rfl, rfl, fun _ => ?_⟩
      have a1 : subD (.int z.1) (.int z.2) w = .ok (.int (z.1 - z.2)) w := rfl
      simp [op_w, var_w, a1]
    rw [List.filter_eq_self.mpr (fun _ _ => rfl)] at lc
    have e2 : ((v.zip l.1).map fun p : Int × Int => PyData.int (p.1 - p.2)) = (subV v l.1).map .int := by
      unfold subV
      rw [← List.map_uncurry_zip_eq_zipWith, List.map_map]
      rfl
    rw [e2] at lc
    have zi := zipM_w (i := 1) (j := 2) (ρ := [o, .fz (dV v), .fz (dV l.1), .fz (.tuple (l.2.map dV)), a, b]) w rfl rfl
    have hz' : ((v.zip l.1).map pr).length ≤ sizeLine := by
      rw [List.length_map, List.length_zip]
      exact size_of_800 (by omega)
    have hl : lcM [4, 5] (tgTup 2 (tgCons (tgN 4) (tgCons (tgN 5) tgNil))) (zipM (lCons (varM 1) (lCons (varM 2) lNil))) yesM (opM subD (varM 4) (varM 5)) [o, .fz (dV v), .fz (dV l.1), .fz (.tuple (l.2.map dV)), a, b] w = .ok (.list ((subV v l.1).map .int)) w := by
      unfold lcM
      rw [bk zi, if_pos hz', bk lc]
      rfl
    have tl : ∀ w, tupleD [.list ((subV v l.1).map .int)] w = .ok (dV (subV v l.1)) w := fun _ => rfl
    have tf := t_fills h1 h4 w 14 l.2 (subV v l.1) (by omega) hl2 (subV_len hv hl1.1) (Int.le_trans (mx_sub h1 hv hl1) hB)
    have g : testM (defM (lenM 2 (F_l_fills 14)) (aCons (callM tupleD (lCons (lcM [4, 5] (tgTup 2 (tgCons (tgN 4) (tgCons (tgN 5) tgNil))) (zipM (lCons (varM 1) (lCons (varM 2) lNil))) yesM (opM subD (varM 4) (varM 5))) lNil)) (aCons (varM 3) aNil))) [o, .fz (dV v), .fz (dV l.1), .fz (.tuple (l.2.map dV)), a, b] w = .ok (fl l.2 (subV v l.1)) w := by
      refine test_of ?_
      have ev : varM 3 [o, .fz (dV v), .fz (dV l.1), .fz (.tuple (l.2.map dV)), a, b] w = .ok (.tuple (l.2.map dV)) w := rfl
      simp only [def_w, acons_w, anil_w, call_w, lcons_w, lnil_w, hl, tl, ev, len_w, List.length_cons, List.length_nil, if_true, tf]
    rw [List.map_cons, fc]
    unfold hasB
    rw [List.any_cons]
    cases q : fl l.2 (subV v l.1) with
    | true =>
      rw [q] at g
      exact .inl ⟨rfl, by rw [hasIn, iff_t g]; rfl⟩
    | false =>
      rw [q] at g
      have e : hasIn [o, .fz (dV v), .fz (dV l.1), .fz (.tuple (l.2.map dV)), a, b] w = .ok (.nx [o, .fz (dV v), .fz (dV l.1), .fz (.tuple (l.2.map dV)), a, b]) w := by rw [hasIn, iff_f g]; rfl
      rw [e]
      rcases t_has_loop h1 h4 o v hv hB w a b ls (.fz (dV l.1)) (.fz (.tuple (l.2.map dV))) (fun m hm => h m (List.mem_cons_of_mem _ hm)) with ⟨r1, r2⟩ | ⟨r1, x', y', r2⟩
      · exact .inl ⟨by rw [Bool.false_or]; exact r1, r2⟩
      · exact .inr ⟨by rw [Bool.false_or]; exact r1, x', y', r2⟩
theorem t_has {n : Nat} (h1 : 1 ≤ n) (h4 : n ≤ 4) {v : Vec} (hv : v.length = n) (hB : mx v ≤ 1000000) {ls : List Lin} (h : ∀ l ∈ ls, Nn n l.1 ∧ (∀ p ∈ l.2, Nn n p) ∧ l.2.length ≤ 12) (w : LS) : F_l_has [.fz (.tuple (ls.map dL)), .fz (dV v)] w = .ok (.bool (hasB ls v)) w := by
  have st : F_l_has [.fz (.tuple (ls.map dL)), .fz (dV v)] w = finR (m_l_has [.fz (.tuple (ls.map dL)), .fz (dV v), .un, .un, .un, .un] w) := body_r _ _ _ _
  rw [st]
  unfold m_l_has
  have ei : itM tupleM (varM 0) [.fz (.tuple (ls.map dL)), .fz (dV v), .un, .un, .un, .un] w = .ok (ls.map dL) w := rfl
  rw [seq_r, for_w, ei]
  simp only
  rcases t_has_loop h1 h4 (.fz (.tuple (ls.map dL))) v hv hB w .un .un ls .un .un h with ⟨r1, r2⟩ | ⟨r1, x', y', r2⟩
  · rw [r1]
    show finR (seqR (forL (tgTup 2 (tgCons (tgN 2) (tgCons (tgN 3) tgNil))) hasIn (ls.map dL) [.fz (.tuple (ls.map dL)), .fz (dV v), .un, .un, .un, .un] w) _) = _
    rw [r2]
    rfl
  · rw [r1]
    show finR (seqR (forL (tgTup 2 (tgCons (tgN 2) (tgCons (tgN 3) tgNil))) hasIn (ls.map dL) [.fz (.tuple (ls.map dL)), .fz (dV v), .un, .un, .un, .un] w) _) = _
    rw [r2, seqR_nx]
    rfl
/-- the law's has is the meaning -/
theorem has_iff {n : Nat} (h1 : 1 ≤ n) {v : Vec} (hv : v.length = n) {ls : List Lin} (h : ∀ l ∈ ls, Nn n l.1 ∧ (∀ p ∈ l.2, Nn n p ∧ pos p = true)) : hasB ls v = true ↔ InS n ls v := by
  unfold hasB
  rw [List.any_eq_true]
  constructor
  · rintro ⟨l, hl, q⟩
    obtain ⟨a, b⟩ := h l hl
    refine ⟨l, hl, subV v l.1, (fl_iff h1 b (subV_len hv a.1)).mp q, ?_⟩
    rw [addV_comm, sub_add v l.1 (by rw [hv, a.1])]
  · rintro ⟨l, hl, c, hc, rfl⟩
    obtain ⟨a, b⟩ := h l hl
    refine ⟨l, hl, ?_⟩
    have hcl := hc.len fun p hp => (b p hp).1.1
    have e : subV (addV l.1 c) l.1 = c := by rw [addV_comm, add_sub c l.1 (by rw [hcl, a.1])]
    rw [e]
    exact (fl_iff h1 b hcl).mpr hc
end Wh

namespace Wh
open PySem PySem.Spec PyProof.Rows L2

/-! ### the meaning of star -/
/-- sums of members, of none too -/
inductive Gen (n : Nat) (ls : List Lin) : Vec → Prop where
  | zero : Gen n ls (zer n)
  | add {v u : Vec} : Gen n ls v → InS n ls u → Gen n ls (addV v u)
theorem zer_add {n : Nat} {v : Vec} (h : v.length = n) : addV (zer n) v = v := by
  rw [addV_comm]
  have e := add_zer v
  rw [h] at e
  exact e
theorem add_zer' {n : Nat} {v : Vec} (h : v.length = n) : addV v (zer n) = v := by
  have e := add_zer v
  rw [h] at e
  exact e
/-- the lines' rows are n long -/
def Len (n : Nat) (ls : List Lin) : Prop := ∀ l ∈ ls, l.1.length = n ∧ ∀ p ∈ l.2, p.length = n
theorem InL.len {n : Nat} {l : Lin} (h1 : l.1.length = n) (h2 : ∀ p ∈ l.2, p.length = n) {v : Vec} (h : InL n l v) : v.length = n := by
  obtain ⟨c, hc, rfl⟩ := h
  exact addV_len h1 (hc.len h2)
theorem InS.len {n : Nat} {ls : List Lin} (h : Len n ls) {v : Vec} (q : InS n ls v) : v.length = n := by
  obtain ⟨l, hl, q⟩ := q
  exact q.len (h l hl).1 (h l hl).2
theorem Gen.len {n : Nat} {ls : List Lin} (h : Len n ls) {v : Vec} (q : Gen n ls v) : v.length = n := by
  induction q with
  | zero => exact zer_len n
  | add _ hu ih => exact addV_len ih (hu.len h)
theorem Gen.plus {n : Nat} {ls : List Lin} (h : Len n ls) {v u : Vec} (q : Gen n ls v) (k : Gen n ls u) : Gen n ls (addV v u) := by
  induction k with
  | zero => rw [add_zer' (q.len h)]; exact q
  | add _ hu ih =>
    rw [← addV_assoc]
    exact ih.add hu
theorem Gen.one {n : Nat} {ls : List Lin} (h : Len n ls) {u : Vec} (q : InS n ls u) : Gen n ls u := by
  have := (Gen.zero (n := n) (ls := ls)).add q
  rwa [zer_add (q.len h)] at this
/-- a line, its base among its periods -/
def plL (l : Lin) : Lin := (l.1, l.2 ++ [l.1])
theorem inl_base {n : Nat} {l : Lin} (h1 : l.1.length = n) : InL n l l.1 := ⟨zer n, .zero, (add_zer' h1).symm⟩
theorem inl_pl {n : Nat} {l : Lin} {v : Vec} (h : InL n l v) : InL n (plL l) v := by
  obtain ⟨c, hc, e⟩ := h
  exact ⟨c, hc.sub fun p hp => List.mem_append.mpr (.inl hp), e⟩
theorem pl_gen {n : Nat} {ls : List Lin} (h : Len n ls) {l : Lin} (hl : l ∈ ls) {v : Vec} (q : InL n (plL l) v) : Gen n ls v := by
  obtain ⟨h1, h2⟩ := h l hl
  obtain ⟨c, hc, rfl⟩ := q
  obtain ⟨a, b, ha, hb, rfl⟩ := (cone_append h2 (fun p hp => by rw [List.mem_singleton.mp hp]; exact h1)).mp hc
  have gb : Gen n ls b := by
    clear hc
    induction hb with
    | zero => exact .zero
    | add _ hp ih => exact ih.add ⟨l, hl, by rw [List.mem_singleton.mp hp]; exact inl_base h1⟩
  show Gen n ls (addV l.1 (addV a b))
  rw [← addV_assoc]
  exact (Gen.one h ⟨l, hl, a, ha, rfl⟩).plus h gb
theorem pl_len {n : Nat} {l : Lin} (h1 : l.1.length = n) (h2 : ∀ p ∈ l.2, p.length = n) : ∀ p ∈ (plL l).2, p.length = n := fun p hp => by
  rcases List.mem_append.mp hp with q | q
  · exact h2 p q
  · rw [List.mem_singleton.mp q]; exact h1
/-- members of a choice -/
def InC (n : Nat) (ls : List Lin) : List Int → Vec → Prop
  | [], v => v = zer n
  | i :: is, v => ∃ l a b, ls[i.toNat]? = some l ∧ InL n (plL l) a ∧ InC n ls is b ∧ v = addV a b
theorem inc_len {n : Nat} {ls : List Lin} (h : Len n ls) : ∀ (is : List Int) (v : Vec), InC n ls is v → v.length = n
  | [], v, q => by rw [show v = zer n from q]; exact zer_len n
  | i :: is, v, ⟨l, a, b, hl, ha, hb, e⟩ => by
    obtain ⟨h1, h2⟩ := h l (List.mem_of_getElem? hl)
    rw [e]
    exact addV_len (InL.len (l := plL l) h1 (pl_len h1 h2) ha) (inc_len h is b hb)
theorem inc_gen {n : Nat} {ls : List Lin} (h : Len n ls) : ∀ (is : List Int) (v : Vec), InC n ls is v → Gen n ls v
  | [], v, q => by rw [show v = zer n from q]; exact .zero
  | i :: is, v, ⟨l, a, b, hl, ha, hb, e⟩ => by
    rw [e]
    exact (pl_gen h (List.mem_of_getElem? hl) ha).plus h (inc_gen h is b hb)
theorem inc_perm {n : Nat} {ls : List Lin} {is js : List Int} (p : is.Perm js) : ∀ {v : Vec}, InC n ls is v → InC n ls js v := by
  induction p with
  | nil => exact fun h => h
  | cons x _ ih =>
    rintro v ⟨l, a, b, hl, ha, hb, e⟩
    exact ⟨l, a, b, hl, ha, ih hb, e⟩
  | swap x y t =>
    rintro v ⟨l, a, b, hl, ha, ⟨l', a', b', hl', ha', hb', e'⟩, e⟩
    refine ⟨l', a', addV a b', hl', ha', ⟨l, a, b', hl, ha, hb', rfl⟩, ?_⟩
    rw [e, e', ← addV_assoc, ← addV_assoc, addV_comm a a']
  | trans _ _ ih1 ih2 => exact fun h => ih2 (ih1 h)
theorem pl_more {n : Nat} {l : Lin} (h1 : l.1.length = n) (h2 : ∀ p ∈ l.2, p.length = n) {a u : Vec} (ha : InL n (plL l) a) (hu : InL n l u) : InL n (plL l) (addV a u) := by
  obtain ⟨c, hc, rfl⟩ := ha
  obtain ⟨d, hd, rfl⟩ := hu
  have hp := pl_len h1 h2
  refine ⟨addV (addV c l.1) d, ?_, ?_⟩
  · exact (hc.add (List.mem_append.mpr (.inr (by simp)))).plus hp (hd.sub fun p hp => List.mem_append.mpr (.inl hp))
  · show addV (addV l.1 c) (addV l.1 d) = addV l.1 (addV (addV c l.1) d)
    rw [addV_assoc, addV_assoc]
theorem inc_more {n : Nat} {ls : List Lin} (h : Len n ls) {i : Int} {l : Lin} (hl : ls[i.toNat]? = some l) {u : Vec} (hu : InL n l u) : ∀ (is : List Int) (v : Vec), i ∈ is → InC n ls is v → InC n ls is (addV v u)
  | [], v, m, _ => absurd m (by simp)
  | j :: is, v, m, ⟨k, a, b, hk, ha, hb, e⟩ => by
    obtain ⟨h1, h2⟩ := h l (List.mem_of_getElem? hl)
    by_cases q : i = j
    · subst q
      rw [hl] at hk
      cases hk
      refine ⟨l, addV a u, b, hl, pl_more h1 h2 ha hu, hb, ?_⟩
      rw [e, addV_assoc, addV_comm b u, ← addV_assoc]
    · rcases List.mem_cons.mp m with m | m
      · exact absurd m q
      · refine ⟨k, a, addV b u, hk, ha, inc_more h hl hu is b m hb, ?_⟩
        rw [e, addV_assoc]
def chsB (k : Nat) : Bool := (chs k).all fun is => (List.range k).all fun i => decide ((i : Int) ∈ is) || (chs k).any fun js => decide (js.isPerm ((i : Int) :: is) = true)
def chs1 (k : Nat) : Bool := (List.range k).all fun i => decide ([(i : Int)] ∈ chs k)
theorem chs_more {k : Nat} (h : k ≤ 3) : chsB k = true ∧ chs1 k = true := by
  match k, h with
  | 0, _ => decide
  | 1, _ => decide
  | 2, _ => decide
  | 3, _ => decide
theorem gen_inc {n : Nat} {ls : List Lin} (h : Len n ls) (h3 : ls.length ≤ 3) {v : Vec} (g : Gen n ls v) : v = zer n ∨ ∃ is ∈ chs ls.length, InC n ls is v := by
  obtain ⟨c1, c2⟩ := chs_more h3
  induction g with
  | zero => exact .inl rfl
  | @add v u gv hu ih =>
    obtain ⟨l, hl, hq⟩ := hu
    obtain ⟨h1, h2⟩ := h l hl
    obtain ⟨i, hi, e⟩ := List.getElem_of_mem hl
    have hg : ls[((i : Nat) : Int).toNat]? = some l := by
      rw [Int.toNat_natCast, List.getElem?_eq_getElem hi, e]
    have hul := hq.len h1 h2
    refine .inr ?_
    rcases ih with rfl | ⟨is, his, hc⟩
    · have m := of_decide_eq_true (List.all_eq_true.mp c2 i (List.mem_range.mpr hi))
      refine ⟨_, m, l, u, zer n, hg, inl_pl hq, rfl, ?_⟩
      rw [addV_comm]
    · by_cases q : (i : Int) ∈ is
      · exact ⟨is, his, inc_more h hg hq is v q hc⟩
      · have m := List.all_eq_true.mp (List.all_eq_true.mp c1 is his) i (List.mem_range.mpr hi)
        rw [decide_eq_false q, Bool.false_or] at m
        obtain ⟨js, hjs, hp⟩ := List.any_eq_true.mp m
        have hp' := List.isPerm_iff.mp (of_decide_eq_true hp)
        refine ⟨js, hjs, inc_perm hp'.symm ⟨l, u, v, hg, inl_pl hq, hc, ?_⟩⟩
        rw [addV_comm]
theorem sumX_pl (x l : Lin) : sumX x (plL l) = (addV x.1 l.1, x.2 ++ l.2 ++ [l.1]) := by
  show (addV x.1 l.1, x.2 ++ (l.2 ++ [l.1])) = _
  rw [List.append_assoc]
theorem ch_inc {n : Nat} {ls : List Lin} (h : Len n ls) : ∀ (is : List Int) (x : Lin), x.1.length = n → (∀ p ∈ x.2, p.length = n) → (∀ i ∈ is, 0 ≤ i ∧ i < (ls.length : Int)) → ∀ v : Vec, InL n (chAdd ls x is) v ↔ ∃ a b, InL n x a ∧ InC n ls is b ∧ v = addV a b
  | [], x, h1, h2, _, v => by
    constructor
    · intro q
      exact ⟨v, zer n, q, rfl, (add_zer' (q.len h1 h2)).symm⟩
    · rintro ⟨a, b, ha, hb, rfl⟩
      rw [show b = zer n from hb, add_zer' (ha.len h1 h2)]
      exact ha
  | i :: is, x, h1, h2, hi, v => by
    obtain ⟨i0, i1⟩ := hi i (by simp)
    have hin : i.toNat < ls.length := by omega
    have hg : ls[i.toNat]? = some ls[i.toNat] := List.getElem?_eq_getElem hin
    obtain ⟨k1, k2⟩ := h ls[i.toNat] (List.getElem_mem hin)
    have ec : chAdd ls x (i :: is) = chAdd ls (sumX x (plL ls[i.toNat])) is := by
      rw [chAdd, hg, sumX_pl]
    have ih := ch_inc h is (sumX x (plL ls[i.toNat])) (addV_len h1 k1) (fun p hp => (List.mem_append.mp hp).elim (h2 p) (pl_len k1 k2 p)) (fun j hj => hi j (List.mem_cons_of_mem _ hj)) v
    rw [ec, ih]
    constructor
    · rintro ⟨a, b, ha, hb, rfl⟩
      obtain ⟨p, q, hp, hq, rfl⟩ := (inl_sum h2 (pl_len k1 k2)).mp ha
      exact ⟨p, addV q b, hp, ⟨_, q, b, hg, hq, hb, rfl⟩, by rw [addV_assoc]⟩
    · rintro ⟨a, b, ha, ⟨l, p, q, hl, hp, hq, rfl⟩, rfl⟩
      rw [hg] at hl
      cases hl
      exact ⟨addV a p, q, (inl_sum h2 (pl_len k1 k2)).mpr ⟨a, p, ha, hp, rfl⟩, hq, by rw [addV_assoc]⟩
theorem inl_point {n : Nat} {z v : Vec} (hz : z.length = n) : InL n (z, []) v ↔ v = z := by
  constructor
  · rintro ⟨c, hc, rfl⟩
    rw [cone_nil.mp hc]
    exact add_zer' hz
  · rintro rfl
    exact ⟨zer n, .zero, (add_zer' hz).symm⟩
theorem chL_inc {n : Nat} {ls : List Lin} (h : Len n ls) {is : List Int} (hi : ∀ i ∈ is, 0 ≤ i ∧ i < (ls.length : Int)) {v : Vec} : InL n (chL ls (zer n) is) v ↔ InC n ls is v := by
  unfold chL
  rw [ch_inc h is (zer n, []) (zer_len n) (fun p hp => absurd hp (by simp)) hi]
  constructor
  · rintro ⟨a, b, ha, hb, rfl⟩
    rw [(inl_point (zer_len n)).mp ha, zer_add (inc_len h is b hb)]
    exact hb
  · intro q
    exact ⟨zer n, v, (inl_point (zer_len n)).mpr rfl, q, (zer_add (inc_len h is v q)).symm⟩
/-- the lines of star hold the sums of members -/
theorem ins_star {n : Nat} {ls : List Lin} (h : Len n ls) (h3 : ls.length ≤ 3) {v : Vec} : InS n ((zer n, []) :: (chs ls.length).map (chL ls (zer n))) v ↔ Gen n ls v := by
  constructor
  · rintro ⟨l, hl, q⟩
    rcases List.mem_cons.mp hl with rfl | m
    · rw [(inl_point (zer_len n)).mp q]
      exact .zero
    · obtain ⟨is, his, rfl⟩ := List.mem_map.mp m
      exact inc_gen h is v ((chL_inc h (chs_ok h3 is his).1).mp q)
  · intro g
    rcases gen_inc h h3 g with rfl | ⟨is, his, hc⟩
    · exact ⟨_, by simp, (inl_point (zer_len n)).mpr rfl⟩
    · exact ⟨_, List.mem_cons_of_mem _ (List.mem_map.mpr ⟨is, his, rfl⟩), (chL_inc h (chs_ok h3 is his).1).mpr hc⟩
end Wh

namespace Wh
open PySem PySem.Spec PyProof.Rows L2

/-! ### the law's lines of a star -/
theorem par_w (i j : Nat) (fs : Ev → M (List PyData)) (ρ : Ev) (w w' : LS) (a b : PyData) (h : fs ρ w = .ok [a, b] w') : parM i j fs ρ w = .ok (.nx ((ρ.set i (.fz a)).set j (.fz b))) w' := by
  unfold parM
  rw [bk h]
  rfl
def lAdd (ls : List Lin) (x : Lin) : List Int → Lin
  | [] => x
  | i :: is => match ls[i.toNat]? with
    | some l => lAdd ls (addV x.1 l.1, x.2 ++ [l.1] ++ l.2) is
    | none => x
abbrev lstIn : Ev → M Fl := seqM (setM 7 (opM ixD (opM ixD (varM 0) (kI 1)) (varM 6)))
  (parM 4 5 (lCons (defM (lenM 2 F_l_plus) (aCons (varM 4) (aCons (opM ixD (varM 7) (kI 0)) aNil))) (lCons (opM addD (opM addD (varM 5) (tupM (lCons (opM ixD (varM 7) (kI 0)) lNil))) (opM ixD (varM 7) (kI 1))) lNil)))
abbrev lsRho (n : Nat) (ls : List Lin) (z : Vec) (acc : List Lin) (c : Sl) (x : Lin) (s t : Sl) : Ev := [.fz (dS n ls), .fz (dV z), .ow (acc.map dL), c, .fz (dV x.1), .fz (.tuple (x.2.map dV)), s, t]
theorem t_lst_in {n : Nat} (h4 : n ≤ 4) (ls : List Lin) (hls : ∀ l ∈ ls, OkL n l) (z : Vec) (acc : List Lin) (c : Sl) (w : LS) : ∀ (is : List Int) (x : Lin) (s t : Sl), (∀ i ∈ is, 0 ≤ i ∧ i < (ls.length : Int)) → x.1.length = n → x.2.length + 13 * is.length ≤ 1000 →
    ∃ s' t', forL (tgN 6) lstIn (is.map .int) (lsRho n ls z acc c x s t) w = .ok (.nx (lsRho n ls z acc c (lAdd ls x is) s' t')) w
  | [], x, s, t, _, _, _ => ⟨s, t, rfl⟩
  | i :: is, x, s, t, h, hx, hz => by
    obtain ⟨hi0, hi1⟩ := h i (by simp)
    have hin : i.toNat < ls.length := by omega
    have hg : ls[i.toNat]? = some ls[i.toNat] := List.getElem?_eq_getElem hin
    have hei : (i.toNat : Int) = i := Int.toNat_of_nonneg hi0
    have hix := fun w => ix_lin ls i.toNat ls[i.toNat] hg w
    rw [hei] at hix
    generalize hL : ls[i.toNat] = l at hg hix
    have hl := hls l (by rw [← hL]; exact List.getElem_mem hin)
    have hlb := hl.b.1
    have hlk := hl.k
    rw [List.length_cons] at hz
    have ad := t_plus x.1 l.1 w (size_of_800 (by omega))
    have a1 := add_TT (x.2.map dV) [dV l.1] w (size_of_800 (by rw [List.length_map, List.length_cons, List.length_nil]; omega))
    have a2 := add_TT (x.2.map dV ++ [dV l.1]) (l.2.map dV) w (size_of_800 (by rw [List.length_append, List.length_map, List.length_map, List.length_cons, List.length_nil]; omega))
    have em : x.2.map dV ++ [dV l.1] ++ l.2.map dV = (x.2 ++ [l.1] ++ l.2).map dV := by simp
    rw [em] at a2
    obtain ⟨s', t', e⟩ := t_lst_in h4 ls hls z acc c w is (addV x.1 l.1, x.2 ++ [l.1] ++ l.2) (.fz (.int i)) (.fz (dL l)) (fun j hj => h j (List.mem_cons_of_mem _ hj)) (addV_len hx hlb) (by
      simp only [List.length_append, List.length_cons, List.length_nil]
      omega)
    refine ⟨s', t', ?_⟩
    have ec : lAdd ls x (i :: is) = lAdd ls (addV x.1 l.1, x.2 ++ [l.1] ++ l.2) is := by
      rw [lAdd, hg]
    rw [ec, ← e, List.map_cons]
    have fc := forL_cons (tgN 6) lstIn (.int i) (is.map .int) (lsRho n ls z acc c x s t) (lsRho n ls z acc c x (.fz (.int i)) t) w rfl
    rw [fc]
    have e1 : setM 7 (opM ixD (opM ixD (varM 0) (kI 1)) (varM 6)) (lsRho n ls z acc c x (.fz (.int i)) t) w = .ok (.nx (lsRho n ls z acc c x (.fz (.int i)) (.fz (dL l)))) w := by
      have v0 : varM 0 (lsRho n ls z acc c x (.fz (.int i)) t) w = .ok (dS n ls) w := rfl
      have v6 : varM 6 (lsRho n ls z acc c x (.fz (.int i)) t) w = .ok (.int i) w := rfl
      simp only [set_w, op_w, v0, kI_w, ixS1, v6, hix]
      rfl
    have e2 : lCons (defM (lenM 2 F_l_plus) (aCons (varM 4) (aCons (opM ixD (varM 7) (kI 0)) aNil))) (lCons (opM addD (opM addD (varM 5) (tupM (lCons (opM ixD (varM 7) (kI 0)) lNil))) (opM ixD (varM 7) (kI 1))) lNil) (lsRho n ls z acc c x (.fz (.int i)) (.fz (dL l))) w = .ok [dV (addV x.1 l.1), .tuple ((x.2 ++ [l.1] ++ l.2).map dV)] w := by
      have v4 : varM 4 (lsRho n ls z acc c x (.fz (.int i)) (.fz (dL l))) w = .ok (dV x.1) w := rfl
      have v5 : varM 5 (lsRho n ls z acc c x (.fz (.int i)) (.fz (dL l))) w = .ok (.tuple (x.2.map dV)) w := rfl
      have v7 : varM 7 (lsRho n ls z acc c x (.fz (.int i)) (.fz (dL l))) w = .ok (dL l) w := rfl
      simp only [lcons_w, lnil_w, def_w, len_w, acons_w, anil_w, v4, op_w, v7, kI_w, ixL0, ixL1, v5, tup_w, List.length_cons, List.length_nil, if_pos one_size, a1, a2, ad, if_true, Nat.zero_add]
    have e3 := par_w 4 5 _ _ w w _ _ e2
    have e4 : lstIn (lsRho n ls z acc c x (.fz (.int i)) t) w = .ok (.nx (lsRho n ls z acc c (addV x.1 l.1, x.2 ++ [l.1] ++ l.2) (.fz (.int i)) (.fz (dL l)))) w := by
      unfold lstIn
      rw [seq_r, e1, seqR_nx, e3]
      rfl
    rw [e4]
theorem lAdd_ok {n : Nat} {ls : List Lin} (hls : ∀ l ∈ ls, OkL n l) : ∀ (is : List Int) (x : Lin), x.1.length = n → (∀ v ∈ x.2, v.length = n) → (lAdd ls x is).1.length = n ∧ (∀ v ∈ (lAdd ls x is).2, v.length = n) ∧ (lAdd ls x is).2.length ≤ x.2.length + 13 * is.length
  | [], x, h1, h2 => ⟨h1, h2, Nat.le_refl _⟩
  | i :: is, x, h1, h2 => by
    rw [lAdd]
    cases q : ls[i.toNat]? with
    | none =>
      refine ⟨h1, h2, ?_⟩
      simp only
      omega
    | some l =>
      have hl := hls l (List.mem_of_getElem? q)
      have hk := hl.k
      obtain ⟨a, b, c⟩ := lAdd_ok hls is (addV x.1 l.1, x.2 ++ [l.1] ++ l.2) (addV_len h1 hl.b.1) fun v hv => by
        rcases List.mem_append.mp hv with z | z
        · rcases List.mem_append.mp z with z | z
          · exact h2 v z
          · rw [List.mem_singleton.mp z]
            exact hl.b.1
        · exact (hl.p v z).1
      refine ⟨a, b, ?_⟩
      simp only [List.length_append, List.length_cons, List.length_nil] at c ⊢
      omega
/-- but for the order of the rows it is star's -/
theorem lAdd_ch (ls : List Lin) : ∀ (is : List Int) (x y : Lin), x.1 = y.1 → (∀ v, v ∈ x.2 ↔ v ∈ y.2) → (lAdd ls x is).1 = (chAdd ls y is).1 ∧ ∀ v, v ∈ (lAdd ls x is).2 ↔ v ∈ (chAdd ls y is).2
  | [], x, y, h1, h2 => ⟨h1, h2⟩
  | i :: is, x, y, h1, h2 => by
    rw [lAdd, chAdd]
    cases q : ls[i.toNat]? with
    | none => exact ⟨h1, h2⟩
    | some l =>
      refine lAdd_ch ls is _ _ (by rw [h1]) fun v => ?_
      simp only [List.mem_append, List.mem_singleton, h2 v]
      constructor
      · rintro ((a | a) | a)
        · exact .inl (.inl a)
        · exact .inr a
        · exact .inl (.inr a)
      · rintro ((a | a) | a)
        · exact .inl (.inl a)
        · exact .inr a
        · exact .inl (.inr a)
theorem cl_lch (ls : List Lin) (z : Vec) (is : List Int) : cl (lAdd ls (z, []) is) = cl (chL ls z is) := by
  obtain ⟨h1, h2⟩ := lAdd_ch ls is (z, []) (z, []) rfl fun v => Iff.rfl
  have e : lAdd ls (z, []) is = ((chL ls z is).1, (lAdd ls (z, []) is).2) := Prod.ext h1 rfl
  rw [e, cl_ext h2]
  rfl
def starX (n : Nat) (ls : List Lin) : List Lin := (zer n, []) :: (chs ls.length).map (chL ls (zer n))
theorem clean_lstar {n : Nat} {ls : List Lin} (h3 : ls.length ≤ 3) : clean ((zer n, []) :: (lchs ls.length).map (lAdd ls (zer n, []))) = clean (starX n ls) := by
  refine clean_ext fun l => ?_
  unfold starX
  rw [List.map_cons, List.map_cons, List.mem_cons, List.mem_cons, List.map_map, List.map_map, List.mem_map, List.mem_map]
  refine or_congr Iff.rfl ⟨?_, ?_⟩
  · rintro ⟨is, his, rfl⟩
    exact ⟨is, (lchs_mem h3 is).mp his, (cl_lch ls (zer n) is).symm⟩
  · rintro ⟨is, his, rfl⟩
    exact ⟨is, (lchs_mem h3 is).mpr his, cl_lch ls (zer n) is⟩
abbrev lstBody : Ev → M Fl := seqM (parM 4 5 (lCons (varM 1) (lCons (tupM lNil) lNil)))
  (seqM (forM (tgN 6) (itM listM (varM 3)) lstIn)
  (appM 2 (tupM (lCons (varM 4) (lCons (varM 5) lNil)))))
theorem t_lst_out {n : Nat} (h4 : n ≤ 4) (ls : List Lin) (hls : ∀ l ∈ ls, OkL n l) (z : Vec) (hz : z.length = n) (w : LS) : ∀ (cs : List (List Int)) (acc : List Lin) (c b r s t : Sl), (∀ is ∈ cs, (∀ i ∈ is, 0 ≤ i ∧ i < (ls.length : Int)) ∧ is.length ≤ 8) → acc.length + cs.length ≤ 1000 →
    ∃ c' b' r' s' t', forL (tgN 3) lstBody (cs.map dI) [.fz (dS n ls), .fz (dV z), .ow (acc.map dL), c, b, r, s, t] w = .ok (.nx [.fz (dS n ls), .fz (dV z), .ow ((acc ++ cs.map (lAdd ls (z, []))).map dL), c', b', r', s', t']) w
  | [], acc, c, b, r, s, t, _, _ => ⟨c, b, r, s, t, by
    have e : acc ++ ([] : List (List Int)).map (lAdd ls (z, [])) = acc := by simp
    rw [e]
    rfl⟩
  | is :: cs, acc, c, b, r, s, t, h, hl => by
    rw [List.length_cons] at hl
    obtain ⟨hi, hil⟩ := h is (by simp)
    obtain ⟨s1, t1, e1⟩ := t_lst_in h4 ls hls z acc (.fz (dI is)) w is (z, []) s t hi hz (by rw [List.length_nil]; omega)
    obtain ⟨c', b', r', s', t', e⟩ := t_lst_out h4 ls hls z hz w cs (acc ++ [lAdd ls (z, []) is]) (.fz (dI is)) (.fz (dV (lAdd ls (z, []) is).1)) (.fz (.tuple ((lAdd ls (z, []) is).2.map dV))) s1 t1 (fun j hj => h j (List.mem_cons_of_mem _ hj)) (by rw [List.length_append, List.length_cons, List.length_nil]; omega)
    refine ⟨c', b', r', s', t', ?_⟩
    have fc := forL_cons (tgN 3) lstBody (dI is) (cs.map dI) [.fz (dS n ls), .fz (dV z), .ow (acc.map dL), c, b, r, s, t] [.fz (dS n ls), .fz (dV z), .ow (acc.map dL), .fz (dI is), b, r, s, t] w rfl
    have p1 : lCons (varM 1) (lCons (tupM lNil) lNil) [.fz (dS n ls), .fz (dV z), .ow (acc.map dL), .fz (dI is), b, r, s, t] w = .ok [dV z, .tuple []] w := by
      simp [lcons_w, lnil_w, tup_w, var_w, zero_size]
    have p2 := par_w 4 5 _ _ w w _ _ p1
    have p3 : forM (tgN 6) (itM listM (varM 3)) lstIn (lsRho n ls z acc (.fz (dI is)) (z, []) s t) w = .ok (.nx (lsRho n ls z acc (.fz (dI is)) (lAdd ls (z, []) is) s1 t1)) w := by
      have ei : itM listM (varM 3) (lsRho n ls z acc (.fz (dI is)) (z, []) s t) w = .ok (is.map .int) w := rfl
      rw [for_w, ei]
      exact e1
    have ev : tupM (lCons (varM 4) (lCons (varM 5) lNil)) (lsRho n ls z acc (.fz (dI is)) (lAdd ls (z, []) is) s1 t1) w = .ok (dL (lAdd ls (z, []) is)) w := by
      have v4 : varM 4 (lsRho n ls z acc (.fz (dI is)) (lAdd ls (z, []) is) s1 t1) w = .ok (dV (lAdd ls (z, []) is).1) w := rfl
      have v5 : varM 5 (lsRho n ls z acc (.fz (dI is)) (lAdd ls (z, []) is) s1 t1) w = .ok (.tuple ((lAdd ls (z, []) is).2.map dV)) w := rfl
      simp only [tup_w, lcons_w, lnil_w, v4, v5, List.length_cons, List.length_nil, if_pos two_size]
      rfl
    have p4 := app_n (d := dL) (i := 2) (l := acc) (a := lAdd ls (z, []) is) (ρ := lsRho n ls z acc (.fz (dI is)) (lAdd ls (z, []) is) s1 t1) (w := w) rfl ev (by rw [sizeLine_eq]; omega)
    have p5 : lstBody [.fz (dS n ls), .fz (dV z), .ow (acc.map dL), .fz (dI is), b, r, s, t] w = .ok (.nx [.fz (dS n ls), .fz (dV z), .ow ((acc ++ [lAdd ls (z, []) is]).map dL), .fz (dI is), .fz (dV (lAdd ls (z, []) is).1), .fz (.tuple ((lAdd ls (z, []) is).2.map dV)), s1, t1]) w := by
      unfold lstBody
      rw [seq_r, p2, seqR_nx, seq_r]
      have q : (([.fz (dS n ls), .fz (dV z), .ow (acc.map dL), .fz (dI is), b, r, s, t] : Ev).set 4 (.fz (dV z))).set 5 (.fz (.tuple [])) = lsRho n ls z acc (.fz (dI is)) (z, []) s t := rfl
      rw [q, p3, seqR_nx, p4]
      rfl
    rw [p5] at fc
    rw [List.map_cons, fc]
    show forL (tgN 3) lstBody (cs.map dI) _ w = _
    rw [e, List.map_cons, List.append_assoc]
    rfl
theorem lchs_ok {k : Nat} (h : k ≤ 3) : (∀ is ∈ lchs k, (∀ i ∈ is, 0 ≤ i ∧ i < (k : Int)) ∧ is.length ≤ 8) ∧ (lchs k).length ≤ 7 := by
  match k, h with
  | 0, _ => decide
  | 1, _ => decide
  | 2, _ => decide
  | 3, _ => decide
theorem t_lstar {n : Nat} {ls : List Lin} (w : LS) (h : OkS n ls) (h3 : ls.length ≤ 3) : F_l_star_lines [.fz (dS n ls)] w = .ok (.tuple ((clean (starX n ls)).map dL)) w := by
  obtain ⟨k1, k2⟩ := lchs_ok h3
  have mz := mul_zer h.n1 (by have := h.n4; omega : n ≤ 1000) w
  have e1 : setM 1 (opM mulD (tupM (lCons (kI 0) lNil)) (opM ixD (varM 0) (kI 0))) [.fz (dS n ls), .un, .un, .un, .un, .un, .un, .un] w = .ok (.nx [.fz (dS n ls), .fz (dV (zer n)), .un, .un, .un, .un, .un, .un]) w := by
    have v0 : varM 0 [.fz (dS n ls), .un, .un, .un, .un, .un, .un, .un] w = .ok (dS n ls) w := rfl
    simp only [set_w, op_w, tup_w, lcons_w, lnil_w, kI_w, List.length_cons, List.length_nil, if_pos one_size, v0, ixS0, mz, Nat.zero_add]
    rfl
  have e2 : ownM 2 (lCons (tupM (lCons (varM 1) (lCons (tupM lNil) lNil))) lNil) [.fz (dS n ls), .fz (dV (zer n)), .un, .un, .un, .un, .un, .un] w = .ok (.nx [.fz (dS n ls), .fz (dV (zer n)), .ow ([(zer n, [])].map dL), .un, .un, .un, .un, .un]) w := by
    unfold ownM
    have el : lCons (tupM (lCons (varM 1) (lCons (tupM lNil) lNil))) lNil [.fz (dS n ls), .fz (dV (zer n)), .un, .un, .un, .un, .un, .un] w = .ok [dL (zer n, [])] w := by
      simp [lcons_w, lnil_w, tup_w, var_w, two_size, zero_size, dL]
    rw [bk el, if_pos (show [dL (zer n, [])].length ≤ sizeLine from one_size)]
    rfl
  obtain ⟨c', b', r', s', t', eo⟩ := t_lst_out h.n4 ls h.l (zer n) (zer_len n) w (lchs ls.length) [(zer n, [])] .un .un .un .un .un k1 (by rw [List.length_cons, List.length_nil]; omega)
  have ef : forM (tgN 3) (itM listM (defM (lenM 1 F_l_choices) (aCons (callM lenD (lCons (opM ixD (varM 0) (kI 1)) lNil)) aNil))) lstBody [.fz (dS n ls), .fz (dV (zer n)), .ow ([(zer n, [])].map dL), .un, .un, .un, .un, .un] w =
      .ok (.nx [.fz (dS n ls), .fz (dV (zer n)), .ow (([(zer n, [])] ++ (lchs ls.length).map (lAdd ls (zer n, []))).map dL), c', b', r', s', t']) w := by
    have lm : ∀ l w, listM (.list l) w = .ok l w := fun _ _ => rfl
    have tc := t_lchs h3 w
    have v0 : varM 0 [.fz (dS n ls), .fz (dV (zer n)), .ow ([(zer n, [])].map dL), .un, .un, .un, .un, .un] w = .ok (dS n ls) w := rfl
    have ei : itM listM (defM (lenM 1 F_l_choices) (aCons (callM lenD (lCons (opM ixD (varM 0) (kI 1)) lNil)) aNil)) [.fz (dS n ls), .fz (dV (zer n)), .ow ([(zer n, [])].map dL), .un, .un, .un, .un, .un] w = .ok ((lchs ls.length).map dI) w := by
      simp only [it_w, def_w, len_w, acons_w, anil_w, call_w, lcons_w, lnil_w, op_w, v0, kI_w, ixS1, lenD_w, len_T, List.length_map, List.length_cons, List.length_nil, tc, lm, if_true]
    rw [for_w, ei]
    exact eo
  have st : F_l_star_lines [.fz (dS n ls)] w = finR (m_l_star_lines [.fz (dS n ls), .un, .un, .un, .un, .un, .un, .un] w) := body_r _ _ _ _
  rw [st]
  unfold m_l_star_lines
  rw [seq_r, e1, seqR_nx, seq_r, e2, seqR_nx, seq_r, ef, seqR_nx, ret_r, fin_ret]
  have hx : ∀ x ∈ [(zer n, ([] : List Vec))] ++ (lchs ls.length).map (lAdd ls (zer n, [])), (∀ v ∈ x.2, v ≠ []) ∧ x.2.length ≤ 1000 := fun x hx => by
    rcases List.mem_append.mp hx with q | q
    · rw [List.mem_singleton.mp q]
      exact ⟨fun v hv => absurd hv (by simp), by show 0 ≤ 1000; omega⟩
    · obtain ⟨is, his, rfl⟩ := List.mem_map.mp q
      obtain ⟨o1, o2, o3⟩ := lAdd_ok h.l is (zer n, []) (zer_len n) (fun v hv => absurd hv (by simp))
      have := (k1 is his).2
      rw [List.length_nil] at o3
      exact ⟨fun v hv => ne_of_len (o2 v hv) h.n1, by omega⟩
  have tc := t_clean w (.inl rfl) hx (by
    rw [List.length_append, List.length_map, List.length_cons, List.length_nil]
    omega)
  have ev : varM 2 (frz 2 [.fz (dS n ls), .fz (dV (zer n)), .ow (([(zer n, [])] ++ (lchs ls.length).map (lAdd ls (zer n, []))).map dL), c', b', r', s', t']) w = .ok (.list (([(zer n, [])] ++ (lchs ls.length).map (lAdd ls (zer n, []))).map dL)) w := rfl
  simp only [def_w, acons_w, anil_w, ev, len_w, List.length_cons, List.length_nil, if_true, tc]
  show R.ok (PyData.tuple ((clean ((zer n, []) :: (lchs ls.length).map (lAdd ls (zer n, [])))).map dL)) w = _
  rw [clean_lstar h3]
end Wh

namespace Wh
open PySem PySem.Spec PyProof.Rows L2

/-! ### the law's sums -/
theorem shape_i (l : List Int) : SeqAt.shaped (.list (l.map .int)) = true := by
  refine sh_of ?_ ?_
  · rw [PyData.canLay0]; exact can_map (fun a => by simp [PyData.canLay0]) l
  · have := dep_map (k := 0) (d := PyData.int) (fun a => by simp [PyData.depth]) l
    simp only [PyData.depth]
    omega
theorem ne_nil (l : List Int) (w : LS) : neD (.list (l.map .int)) (.list []) w = .ok (.bool (!l.isEmpty)) w := by
  have a := shape_i l
  have b := shape_i []
  rw [List.map_nil] at b
  unfold neD eqvD
  rw [if_pos ⟨a, b⟩]
  cases l with
  | nil => rfl
  | cons p l => rfl
theorem lnil_d (ρ : Ev) (w : LS) : lstM lNil ρ w = .ok (.list []) w := by simp [lst_w, lnil_w, zero_size]
abbrev minusM : Ev → M PyData := defM (lenM 2 F_l_minus) (aCons (varM 4) (aCons (varM 6) aNil))
theorem minus_w {ρ : Ev} {r p : Vec} {w : LS} (h4 : ρ[4]? = some (.fz (dV r))) (h6 : ρ[6]? = some (.fz (dV p))) (hz : r.length ≤ sizeLine) : minusM ρ w = .ok (dV (subV r p)) w := by
  have v4 : varM 4 ρ w = .ok (dV r) w := by rw [var_w, h4]
  have v6 : varM 6 ρ w = .ok (dV p) w := by rw [var_w, h6]
  simp only [minusM, def_w, acons_w, anil_w, v4, v6, len_w, List.length_cons, List.length_nil, if_true, t_minus r p w hz, Nat.zero_add, Nat.reduceAdd]
abbrev geM : Ev → M Bool := testM (opM geD (callM minD (lCons minusM lNil)) (kI 0))
theorem geM_w {ρ : Ev} {r p : Vec} {w : LS} (h4 : ρ[4]? = some (.fz (dV r))) (h6 : ρ[6]? = some (.fz (dV p))) (hz : r.length ≤ sizeLine) (hn : subV r p ≠ []) : geM ρ w = .ok (decide (0 ≤ mn (subV r p))) w := by
  refine test_of ?_
  simp only [op_w, call_w, lcons_w, lnil_w, minus_w h4 h6 hz, min_V hn w, kI_w, ge_ii]
theorem inV_w (ss : List Vec) (v : Vec) (w : LS) : isInD false (dV v) (.list (ss.map dV)) w = .ok (.bool (decide (v ∈ ss))) w := by
  rw [encV.in_ false ss v w]
  simp only [Bool.false_eq_true, if_false]
  congr 2
  exact decide_eq_decide.mpr Iff.rfl
theorem inM_fz {ρ : Ev} {r p : Vec} {w : LS} {j : Nat} {ss : List Vec} (h4 : ρ[4]? = some (.fz (dV r))) (h6 : ρ[6]? = some (.fz (dV p))) (hz : r.length ≤ sizeLine) (hj : ρ[j]? = some (.fz (.list (ss.map dV)))) : testM (inSlM false minusM j) ρ w = .ok (decide (subV r p ∈ ss)) w := by
  refine test_of ?_
  unfold inSlM
  rw [bk (minus_w h4 h6 hz), hj]
  exact inV_w ss (subV r p) w
theorem inM_ow {ρ : Ev} {r p : Vec} {w : LS} {j : Nat} {ss : List Vec} (h4 : ρ[4]? = some (.fz (dV r))) (h6 : ρ[6]? = some (.fz (dV p))) (hz : r.length ≤ sizeLine) (hj : ρ[j]? = some (.ow (ss.map dV))) : testM (inSlM false minusM j) ρ w = .ok (decide (subV r p ∈ ss)) w := by
  refine test_of ?_
  unfold inSlM
  rw [bk (minus_w h4 h6 hz), hj]
  exact inV_w ss (subV r p) w
/-- the list of ones is not empty -/
theorem ones_w {ρ : Ev} {w : LS} {j : Nat} {r : Vec} {ss ps : List Vec} (hp : ρ[5]? = some (.fz (.list (ps.map dV)))) (hpz : ps.length ≤ 100000)
    (H : ∀ p ∈ ps, ∃ ρ1, tgN 6 (dV p) (wipeE ρ [6]) = some ρ1 ∧ testM (inSlM false minusM j) ρ1 w = .ok (decide (subV r p ∈ ss)) w) :
    testM (opM neD (lcM [6] (tgN 6) (itM listM (varM 5)) (testM (inSlM false minusM j)) (kI 1)) (lstM lNil)) ρ w = .ok (ps.any fun p => decide (subV r p ∈ ss)) w := by
  have lc := lc_w (g := tgN 6) (vs := [6]) (ft := testM (inSlM false minusM j)) (fe := kI 1) (ρ := ρ) (w := w) dV (fun p => decide (subV r p ∈ ss)) (fun _ => .int 1) ps fun p hp => by
    obtain ⟨ρ1, a, b⟩ := H p hp
    exact ⟨ρ1, a, b, fun _ => kI_w _ _ _⟩
  have it : itM listM (varM 5) ρ w = .ok (ps.map dV) w := by
    rw [it_w, var_w, hp]
    rfl
  have hl : lcM [6] (tgN 6) (itM listM (varM 5)) (testM (inSlM false minusM j)) (kI 1) ρ w = .ok (.list (((ps.filter fun p => decide (subV r p ∈ ss)).map fun _ => (1 : Int)).map .int)) w := by
    unfold lcM
    rw [bk it, if_pos (size_of_800 (by rw [List.length_map]; exact hpz)), bk lc, List.map_map]
    rfl
  refine test_of ?_
  simp only [op_w, hl, lnil_d, ne_nil]
  congr 2
  rw [Bool.eq_iff_iff, Bool.not_eq_true', List.any_eq_true]
  cases e : ps.filter fun p => decide (subV r p ∈ ss) with
  | nil =>
    constructor
    · intro h
      exact absurd h (by simp)
    · rintro ⟨p, hp, q⟩
      have : p ∈ ps.filter fun p => decide (subV r p ∈ ss) := List.mem_filter.mpr ⟨hp, q⟩
      rw [e] at this
      exact absurd this (by simp)
  | cons p l =>
    have : p ∈ ps.filter fun p => decide (subV r p ∈ ss) := by rw [e]; simp
    obtain ⟨hp, q⟩ := List.mem_filter.mp this
    exact ⟨fun _ => ⟨p, hp, q⟩, fun _ => rfl⟩
def sumP (fs ss : List Vec) (r : Vec) : Bool := (fs.filter fun p => decide (0 ≤ mn (subV r p))).any fun p => decide (subV r p ∈ ss)
abbrev suBody : Ev → M Fl := seqM (setM 5 (lcM [6] (tgN 6) (itM listM (varM 0)) geM (varM 6)))
  (iffM (testM (opM neD (lcM [6] (tgN 6) (itM listM (varM 5)) (testM (inSlM false minusM 1)) (kI 1)) (lstM lNil))) (appM 3 (varM 4)) skipM)
theorem t_su_body {n : Nat} (h1 : 1 ≤ n) (h4 : n ≤ 4) (fs ss acc : List Vec) (hf : ∀ p ∈ fs, p.length = n) (hfz : fs.length ≤ 1000) (g : Sl) (r : Vec) (hr : r.length = n) (ha : acc.length ≤ 1000) (x : Sl) (w : LS) :
    ∃ x', suBody [.fz (.list (fs.map dV)), .fz (.list (ss.map dV)), g, .ow (acc.map dV), .fz (dV r), x, .un] w = .ok (.nx [.fz (.list (fs.map dV)), .fz (.list (ss.map dV)), g, .ow ((if sumP fs ss r then acc ++ [r] else acc).map dV), .fz (dV r), x', .un]) w := by
  have hz : r.length ≤ sizeLine := size_of_800 (by omega)
  refine ⟨.fz (.list ((fs.filter fun p => decide (0 ≤ mn (subV r p))).map dV)), ?_⟩
  have lc := lc_w (g := tgN 6) (vs := [6]) (ft := geM) (fe := varM 6) (ρ := [.fz (.list (fs.map dV)), .fz (.list (ss.map dV)), g, .ow (acc.map dV), .fz (dV r), x, .un]) (w := w) dV (fun p => decide (0 ≤ mn (subV r p))) dV fs fun p hp =>
    ⟨[.fz (.list (fs.map dV)), .fz (.list (ss.map dV)), g, .ow (acc.map dV), .fz (dV r), x, .fz (dV p)], rfl, geM_w rfl rfl hz (ne_of_len (subV_len hr (hf p hp)) h1), fun _ => rfl⟩
  have it : itM listM (varM 0) [.fz (.list (fs.map dV)), .fz (.list (ss.map dV)), g, .ow (acc.map dV), .fz (dV r), x, .un] w = .ok (fs.map dV) w := rfl
  have hl : lcM [6] (tgN 6) (itM listM (varM 0)) geM (varM 6) [.fz (.list (fs.map dV)), .fz (.list (ss.map dV)), g, .ow (acc.map dV), .fz (dV r), x, .un] w = .ok (.list ((fs.filter fun p => decide (0 ≤ mn (subV r p))).map dV)) w := by
    unfold lcM
    rw [bk it, if_pos (size_of_800 (by rw [List.length_map]; omega)), bk lc]
    rfl
  have e1 : setM 5 (lcM [6] (tgN 6) (itM listM (varM 0)) geM (varM 6)) [.fz (.list (fs.map dV)), .fz (.list (ss.map dV)), g, .ow (acc.map dV), .fz (dV r), x, .un] w = .ok (.nx [.fz (.list (fs.map dV)), .fz (.list (ss.map dV)), g, .ow (acc.map dV), .fz (dV r), .fz (.list ((fs.filter fun p => decide (0 ≤ mn (subV r p))).map dV)), .un]) w := by
    rw [set_w, hl]
    rfl
  have e2 := ones_w (ρ := [.fz (.list (fs.map dV)), .fz (.list (ss.map dV)), g, .ow (acc.map dV), .fz (dV r), .fz (.list ((fs.filter fun p => decide (0 ≤ mn (subV r p))).map dV)), .un]) (w := w) (j := 1) (r := r) (ss := ss) (ps := fs.filter fun p => decide (0 ≤ mn (subV r p))) rfl (by
      have := List.length_filter_le (fun p => decide (0 ≤ mn (subV r p))) fs
      omega) fun p hp => ⟨[.fz (.list (fs.map dV)), .fz (.list (ss.map dV)), g, .ow (acc.map dV), .fz (dV r), .fz (.list ((fs.filter fun p => decide (0 ≤ mn (subV r p))).map dV)), .fz (dV p)], rfl, inM_fz (ss := ss) rfl rfl hz rfl⟩
  unfold suBody
  rw [seq_r, e1, seqR_nx]
  have ed : sumP fs ss r = (fs.filter fun p => decide (0 ≤ mn (subV r p))).any fun p => decide (subV r p ∈ ss) := rfl
  rw [← ed] at e2
  cases q : sumP fs ss r with
  | true =>
    rw [q] at e2
    rw [iff_t e2, app_n (d := dV) (l := acc) (a := r) rfl rfl (by rw [sizeLine_eq]; omega)]
    rfl
  | false =>
    rw [q] at e2
    rw [iff_f e2, skip_w]
    rfl
theorem t_su_loop {n : Nat} (h1 : 1 ≤ n) (h4 : n ≤ 4) (fs ss : List Vec) (hf : ∀ p ∈ fs, p.length = n) (hfz : fs.length ≤ 1000) (g : Sl) (w : LS) : ∀ (rs acc : List Vec) (y x : Sl), (∀ r ∈ rs, r.length = n) → acc.length + rs.length ≤ 1000 →
    ∃ y' x', forL (tgN 4) suBody (rs.map dV) [.fz (.list (fs.map dV)), .fz (.list (ss.map dV)), g, .ow (acc.map dV), y, x, .un] w = .ok (.nx [.fz (.list (fs.map dV)), .fz (.list (ss.map dV)), g, .ow ((acc ++ rs.filter (sumP fs ss)).map dV), y', x', .un]) w
  | [], acc, y, x, _, _ => ⟨y, x, by rw [List.filter_nil, List.append_nil]; rfl⟩
  | r :: rs, acc, y, x, h, hl => by
    rw [List.length_cons] at hl
    obtain ⟨x1, e1⟩ := t_su_body h1 h4 fs ss acc hf hfz g r (h r (by simp)) (by omega) x w
    obtain ⟨y', x', e⟩ := t_su_loop h1 h4 fs ss hf hfz g w rs (if sumP fs ss r then acc ++ [r] else acc) (.fz (dV r)) x1 (fun u hu => h u (List.mem_cons_of_mem _ hu)) (by
      by_cases q : sumP fs ss r = true
      · rw [if_pos q, List.length_append, List.length_cons, List.length_nil]; omega
      · rw [if_neg q]; omega)
    refine ⟨y', x', ?_⟩
    have fc := forL_cons (tgN 4) suBody (dV r) (rs.map dV) [.fz (.list (fs.map dV)), .fz (.list (ss.map dV)), g, .ow (acc.map dV), y, x, .un] [.fz (.list (fs.map dV)), .fz (.list (ss.map dV)), g, .ow (acc.map dV), .fz (dV r), x, .un] w rfl
    rw [e1] at fc
    rw [List.map_cons, fc]
    show forL (tgN 4) suBody (rs.map dV) _ w = _
    rw [e]
    by_cases q : sumP fs ss r = true
    · rw [if_pos q, List.filter_cons_of_pos q, List.append_assoc]
      rfl
    · rw [if_neg q, List.filter_cons_of_neg q]
theorem own0 (i : Nat) (ρ : Ev) (w : LS) : ownM i lNil ρ w = .ok (.nx (ρ.set i (.ow []))) w := by
  unfold ownM
  rw [bk (lnil_w ρ w), if_pos (show ([] : List PyData).length ≤ sizeLine from zero_size)]
  rfl
theorem t_lsums {n : Nat} (h1 : 1 ≤ n) (h4 : n ≤ 4) {fs ss g : List Vec} (hf : ∀ p ∈ fs, p.length = n) (hfz : fs.length ≤ 1000) (hg : ∀ p ∈ g, p.length = n) (hgz : g.length ≤ 1000) (w : LS) : F_l_sums [.fz (.list (fs.map dV)), .fz (.list (ss.map dV)), .fz (.list (g.map dV))] w = .ok (.list ((g.filter (sumP fs ss)).map dV)) w := by
  obtain ⟨y', x', e⟩ := t_su_loop h1 h4 fs ss hf hfz (.fz (.list (g.map dV))) w g [] .un .un hg (by rw [List.length_nil]; omega)
  have st : F_l_sums [.fz (.list (fs.map dV)), .fz (.list (ss.map dV)), .fz (.list (g.map dV))] w = finR (m_l_sums [.fz (.list (fs.map dV)), .fz (.list (ss.map dV)), .fz (.list (g.map dV)), .un, .un, .un, .un] w) := body_r _ _ _ _
  rw [st]
  unfold m_l_sums
  have ei : itM listM (varM 2) [.fz (.list (fs.map dV)), .fz (.list (ss.map dV)), .fz (.list (g.map dV)), .ow [], .un, .un, .un] w = .ok (g.map dV) w := rfl
  have es : ([.fz (.list (fs.map dV)), .fz (.list (ss.map dV)), .fz (.list (g.map dV)), .un, .un, .un, .un] : Ev).set 3 (.ow []) = [.fz (.list (fs.map dV)), .fz (.list (ss.map dV)), .fz (.list (g.map dV)), .ow [], .un, .un, .un] := rfl
  rw [seq_r, own0, seqR_nx, es, seq_r, for_w, ei]
  show finR (seqR (forL (tgN 4) suBody (g.map dV) [.fz (.list (fs.map dV)), .fz (.list (ss.map dV)), .fz (.list (g.map dV)), .ow (([] : List Vec).map dV), .un, .un, .un] w) _) = _
  rw [e, seqR_nx, ret_r, fin_ret]
  rfl

/-! ### the law's rows of a star -/
def starP (fs : List Vec) (z : Vec) (acc : List Vec) (r : Vec) : Bool := (fs.filter fun p => !decide (p = z) && decide (0 ≤ mn (subV r p))).any fun p => decide (subV r p ∈ acc)
def srows (fs : List Vec) (z : Vec) : List Vec → List Vec → List Vec
  | acc, [] => acc
  | acc, r :: rs => srows fs z (if starP fs z acc r then acc ++ [r] else acc) rs
theorem ne_VV (a b : Vec) (w : LS) : neD (dV a) (dV b) w = .ok (.bool (!decide (a = b))) w := by
  unfold neD eqvD
  rw [if_pos ⟨encV.sh a, encV.sh b⟩, eqv_V]
  rfl
abbrev srBody : Ev → M Fl := seqM (setM 5 (lcM [6] (tgN 6) (itM listM (varM 0)) (andM (testM (opM neD (varM 6) (varM 3))) geM) (varM 6)))
  (iffM (testM (opM neD (lcM [6] (tgN 6) (itM listM (varM 5)) (testM (inSlM false minusM 2)) (kI 1)) (lstM lNil))) (appM 2 (varM 4)) skipM)
theorem t_sr_body {n : Nat} (h1 : 1 ≤ n) (h4 : n ≤ 4) (fs acc : List Vec) (z : Vec) (hf : ∀ p ∈ fs, p.length = n) (hfz : fs.length ≤ 1000) (g : Sl) (r : Vec) (hr : r.length = n) (ha : acc.length ≤ 1000) (x : Sl) (w : LS) :
    ∃ x', srBody [.fz (.list (fs.map dV)), g, .ow (acc.map dV), .fz (dV z), .fz (dV r), x, .un] w = .ok (.nx [.fz (.list (fs.map dV)), g, .ow ((if starP fs z acc r then acc ++ [r] else acc).map dV), .fz (dV z), .fz (dV r), x', .un]) w := by
  have hz : r.length ≤ sizeLine := size_of_800 (by omega)
  refine ⟨.fz (.list ((fs.filter fun p => !decide (p = z) && decide (0 ≤ mn (subV r p))).map dV)), ?_⟩
  have lc := lc_w (g := tgN 6) (vs := [6]) (ft := andM (testM (opM neD (varM 6) (varM 3))) geM) (fe := varM 6) (ρ := [.fz (.list (fs.map dV)), g, .ow (acc.map dV), .fz (dV z), .fz (dV r), x, .un]) (w := w) dV (fun p => !decide (p = z) && decide (0 ≤ mn (subV r p))) dV fs fun p hp => by
    refine ⟨[.fz (.list (fs.map dV)), g, .ow (acc.map dV), .fz (dV z), .fz (dV r), x, .fz (dV p)], rfl, ?_, fun _ => rfl⟩
    have g1 : testM (opM neD (varM 6) (varM 3)) [.fz (.list (fs.map dV)), g, .ow (acc.map dV), .fz (dV z), .fz (dV r), x, .fz (dV p)] w = .ok (!decide (p = z)) w := by
      refine test_of ?_
      have v6 : varM 6 [.fz (.list (fs.map dV)), g, .ow (acc.map dV), .fz (dV z), .fz (dV r), x, .fz (dV p)] w = .ok (dV p) w := rfl
      have v3 : varM 3 [.fz (.list (fs.map dV)), g, .ow (acc.map dV), .fz (dV z), .fz (dV r), x, .fz (dV p)] w = .ok (dV z) w := rfl
      simp only [op_w, v6, v3, ne_VV]
    have g2 := geM_w (ρ := [.fz (.list (fs.map dV)), g, .ow (acc.map dV), .fz (dV z), .fz (dV r), x, .fz (dV p)]) (r := r) (p := p) (w := w) rfl rfl hz (ne_of_len (subV_len hr (hf p hp)) h1)
    rw [and_w, g1]
    cases !decide (p = z) with
    | true => exact g2
    | false => rfl
  have it : itM listM (varM 0) [.fz (.list (fs.map dV)), g, .ow (acc.map dV), .fz (dV z), .fz (dV r), x, .un] w = .ok (fs.map dV) w := rfl
  have hl : lcM [6] (tgN 6) (itM listM (varM 0)) (andM (testM (opM neD (varM 6) (varM 3))) geM) (varM 6) [.fz (.list (fs.map dV)), g, .ow (acc.map dV), .fz (dV z), .fz (dV r), x, .un] w = .ok (.list ((fs.filter fun p => !decide (p = z) && decide (0 ≤ mn (subV r p))).map dV)) w := by
    unfold lcM
    rw [bk it, if_pos (size_of_800 (by rw [List.length_map]; omega)), bk lc]
    rfl
  have e1 : setM 5 (lcM [6] (tgN 6) (itM listM (varM 0)) (andM (testM (opM neD (varM 6) (varM 3))) geM) (varM 6)) [.fz (.list (fs.map dV)), g, .ow (acc.map dV), .fz (dV z), .fz (dV r), x, .un] w = .ok (.nx [.fz (.list (fs.map dV)), g, .ow (acc.map dV), .fz (dV z), .fz (dV r), .fz (.list ((fs.filter fun p => !decide (p = z) && decide (0 ≤ mn (subV r p))).map dV)), .un]) w := by
    rw [set_w, hl]
    rfl
  have e2 := ones_w (ρ := [.fz (.list (fs.map dV)), g, .ow (acc.map dV), .fz (dV z), .fz (dV r), .fz (.list ((fs.filter fun p => !decide (p = z) && decide (0 ≤ mn (subV r p))).map dV)), .un]) (w := w) (j := 2) (r := r) (ss := acc) (ps := fs.filter fun p => !decide (p = z) && decide (0 ≤ mn (subV r p))) rfl (by
      have := List.length_filter_le (fun p => !decide (p = z) && decide (0 ≤ mn (subV r p))) fs
      omega) fun p hp => ⟨[.fz (.list (fs.map dV)), g, .ow (acc.map dV), .fz (dV z), .fz (dV r), .fz (.list ((fs.filter fun p => !decide (p = z) && decide (0 ≤ mn (subV r p))).map dV)), .fz (dV p)], rfl, inM_ow (ss := acc) rfl rfl hz rfl⟩
  unfold srBody
  rw [seq_r, e1, seqR_nx]
  have ed : starP fs z acc r = (fs.filter fun p => !decide (p = z) && decide (0 ≤ mn (subV r p))).any fun p => decide (subV r p ∈ acc) := rfl
  rw [← ed] at e2
  cases q : starP fs z acc r with
  | true =>
    rw [q] at e2
    rw [iff_t e2, app_n (d := dV) (l := acc) (a := r) rfl rfl (by rw [sizeLine_eq]; omega)]
    rfl
  | false =>
    rw [q] at e2
    rw [iff_f e2, skip_w]
    rfl
theorem t_sr_loop {n : Nat} (h1 : 1 ≤ n) (h4 : n ≤ 4) (fs : List Vec) (z : Vec) (hf : ∀ p ∈ fs, p.length = n) (hfz : fs.length ≤ 1000) (g : Sl) (w : LS) : ∀ (rs acc : List Vec) (y x : Sl), (∀ r ∈ rs, r.length = n) → acc.length + rs.length ≤ 1000 →
    ∃ y' x', forL (tgN 4) srBody (rs.map dV) [.fz (.list (fs.map dV)), g, .ow (acc.map dV), .fz (dV z), y, x, .un] w = .ok (.nx [.fz (.list (fs.map dV)), g, .ow ((srows fs z acc rs).map dV), .fz (dV z), y', x', .un]) w
  | [], acc, y, x, _, _ => ⟨y, x, rfl⟩
  | r :: rs, acc, y, x, h, hl => by
    rw [List.length_cons] at hl
    obtain ⟨x1, e1⟩ := t_sr_body h1 h4 fs acc z hf hfz g r (h r (by simp)) (by omega) x w
    obtain ⟨y', x', e⟩ := t_sr_loop h1 h4 fs z hf hfz g w rs (if starP fs z acc r then acc ++ [r] else acc) (.fz (dV r)) x1 (fun u hu => h u (List.mem_cons_of_mem _ hu)) (by
      by_cases q : starP fs z acc r = true
      · rw [if_pos q, List.length_append, List.length_cons, List.length_nil]; omega
      · rw [if_neg q]; omega)
    refine ⟨y', x', ?_⟩
    have fc := forL_cons (tgN 4) srBody (dV r) (rs.map dV) [.fz (.list (fs.map dV)), g, .ow (acc.map dV), .fz (dV z), y, x, .un] [.fz (.list (fs.map dV)), g, .ow (acc.map dV), .fz (dV z), .fz (dV r), x, .un] w rfl
    rw [e1] at fc
    rw [List.map_cons, fc]
    exact e
theorem t_lsrows {n : Nat} (h1 : 1 ≤ n) (h4 : n ≤ 4) {fs g : List Vec} {z : Vec} (hf : ∀ p ∈ fs, p.length = n) (hfz : fs.length ≤ 1000) (hg : ∀ p ∈ g, p.length = n) (hgz : g.length ≤ 900) (w : LS) : F_l_star_rows [.fz (.list (fs.map dV)), .fz (.list ((z :: g).map dV))] w = .ok (.list ((srows fs z [z] g).map dV)) w := by
  obtain ⟨y', x', e⟩ := t_sr_loop h1 h4 fs z hf hfz (.fz (.list ((z :: g).map dV))) w g [z] .un .un hg (by rw [List.length_cons, List.length_nil]; omega)
  have st : F_l_star_rows [.fz (.list (fs.map dV)), .fz (.list ((z :: g).map dV))] w = finR (m_l_star_rows [.fz (.list (fs.map dV)), .fz (.list ((z :: g).map dV)), .un, .un, .un, .un, .un] w) := body_r _ _ _ _
  rw [st]
  unfold m_l_star_rows
  have ix : opM ixD (varM 1) (kI 0) [.fz (.list (fs.map dV)), .fz (.list ((z :: g).map dV)), .un, .un, .un, .un, .un] w = .ok (dV z) w := by
    have e : L2.atI ((z :: g).map dV) ((0 : Nat) : Int) = some (dV z) := L2.atI_nat rfl
    have v1 : varM 1 [.fz (.list (fs.map dV)), .fz (.list ((z :: g).map dV)), .un, .un, .un, .un, .un] w = .ok (.list ((z :: g).map dV)) w := rfl
    simp only [op_w, v1, kI_w]
    show (match L2.atI ((z :: g).map dV) ((0 : Nat) : Int) with | some d => pure d | none => M.no : M PyData) w = _
    rw [e]
    rfl
  have p1 : parOM 2 3 (lCons (opM ixD (varM 1) (kI 0)) lNil) (opM ixD (varM 1) (kI 0)) [.fz (.list (fs.map dV)), .fz (.list ((z :: g).map dV)), .un, .un, .un, .un, .un] w = .ok (.nx [.fz (.list (fs.map dV)), .fz (.list ((z :: g).map dV)), .ow ([z].map dV), .fz (dV z), .un, .un, .un]) w := by
    unfold parOM
    have el : lCons (opM ixD (varM 1) (kI 0)) lNil [.fz (.list (fs.map dV)), .fz (.list ((z :: g).map dV)), .un, .un, .un, .un, .un] w = .ok [dV z] w := by
      simp only [lcons_w, lnil_w, ix]
    rw [bk el, if_pos (show [dV z].length ≤ sizeLine from one_size), bk ix]
    rfl
  have ei : itM listM (sliceM (varM 1) (some 1) none) [.fz (.list (fs.map dV)), .fz (.list ((z :: g).map dV)), .ow ([z].map dV), .fz (dV z), .un, .un, .un] w = .ok (g.map dV) w := by
    have e : itM listM (sliceM (varM 1) (some 1) none) [.fz (.list (fs.map dV)), .fz (.list ((z :: g).map dV)), .ow ([z].map dV), .fz (dV z), .un, .un, .un] w = .ok (cutD ((z :: g).map dV) (some 1) none) w := rfl
    rw [e, List.map_cons, cut_one]
  rw [seq_r, p1, seqR_nx, seq_r, for_w, ei]
  show finR (seqR (forL (tgN 4) srBody (g.map dV) [.fz (.list (fs.map dV)), .fz (.list ((z :: g).map dV)), .ow ([z].map dV), .fz (dV z), .un, .un, .un] w) _) = _
  rw [e, seqR_nx, ret_r, fin_ret]
  rfl
end Wh

namespace Wh
open PySem PySem.Spec PyProof.Rows L2

/-! ### what the law's sums and rows of a star mean -/
theorem lt_add : ∀ (a u : Vec), a.length = u.length → (∀ i ∈ u, 0 ≤ i) → u ≠ zer u.length → ltV a (addV a u) = true
  | [], u, h, _, hz => by
    cases u with
    | nil => exact absurd rfl hz
    | cons x u => simp at h
  | x :: a, [], h, _, _ => by simp at h
  | x :: a, y :: u, h, hn, hz => by
    have h' : a.length = u.length := by simpa using h
    show PySem.W.listLt (x :: a) ((x + y) :: addV a u) = true
    rw [PySem.W.listLt]
    have hy := hn y (by simp)
    by_cases q : y = 0
    · subst q
      rw [if_pos (by omega)]
      refine lt_add a u h' (fun i hi => hn i (List.mem_cons_of_mem _ hi)) fun e => hz ?_
      show (0 : Int) :: u = (0 : Int) :: List.replicate u.length 0
      rw [← show u = List.replicate u.length 0 from e]
    · rw [if_neg (by omega)]
      show decide (x < x + y) = true
      exact decide_eq_true (by omega)
/-- rows of a grid -/
structure GridOk (n : Nat) (g : List Vec) : Prop where
  mem : ∀ v, v ∈ g ↔ v.length = n ∧ ∀ i ∈ v, 0 ≤ i ∧ i ≤ 6
  sorted : g.Pairwise fun a b => ltV a b = true
theorem upTo_mem {i : Int} : i ∈ upTo ↔ 0 ≤ i ∧ i ≤ 6 := by
  unfold upTo
  simp only [List.mem_cons, List.not_mem_nil, or_false]
  omega
theorem grid1_ok : GridOk 1 (grid 1) where
  mem := fun v => by
    show v ∈ upTo.map (fun a => [a]) ↔ _
    rw [List.mem_map]
    constructor
    · rintro ⟨a, ha, rfl⟩
      refine ⟨rfl, fun i hi => ?_⟩
      rw [List.mem_singleton.mp hi]
      exact upTo_mem.mp ha
    · rintro ⟨h1, h2⟩
      match v, h1 with
      | [a], _ => exact ⟨a, upTo_mem.mpr (h2 a (by simp)), rfl⟩
  sorted := by decide +kernel
theorem grid2_ok : GridOk 2 (grid 2) where
  mem := fun v => by
    show v ∈ (upTo.map fun a => upTo.map fun b => [a, b]).flatten ↔ _
    rw [List.mem_flatten]
    constructor
    · rintro ⟨l, hl, hv⟩
      obtain ⟨a, ha, rfl⟩ := List.mem_map.mp hl
      obtain ⟨b, hb, rfl⟩ := List.mem_map.mp hv
      refine ⟨rfl, fun i hi => ?_⟩
      rcases List.mem_cons.mp hi with rfl | hi
      · exact upTo_mem.mp ha
      · rw [List.mem_singleton.mp hi]
        exact upTo_mem.mp hb
    · rintro ⟨h1, h2⟩
      match v, h1 with
      | [a, b], _ => exact ⟨_, List.mem_map.mpr ⟨a, upTo_mem.mpr (h2 a (by simp)), rfl⟩, List.mem_map.mpr ⟨b, upTo_mem.mpr (h2 b (by simp)), rfl⟩⟩
  sorted := by decide +kernel
theorem grid_ok {n : Nat} (h : n = 1 ∨ n = 2) : GridOk n (grid n) := by
  rcases h with rfl | rfl
  · exact grid1_ok
  · exact grid2_ok
theorem grid_zer {n : Nat} (h : n = 1 ∨ n = 2) : grid n = zer n :: (grid n).tail ∧ (grid n).length ≤ 49 := by
  rcases h with rfl | rfl
  · exact ⟨by decide +kernel, by decide +kernel⟩
  · exact ⟨by decide +kernel, by decide +kernel⟩
/-- the lines' numbers are not below 0 -/
def NnS (n : Nat) (ls : List Lin) : Prop := ∀ l ∈ ls, Nn n l.1 ∧ ∀ p ∈ l.2, Nn n p
theorem NnS.len {n : Nat} {ls : List Lin} (h : NnS n ls) : Len n ls := fun l hl => ⟨(h l hl).1.1, fun p hp => ((h l hl).2 p hp).1⟩
theorem nn_add {n : Nat} {v u : Vec} (h : Nn n v) (k : Nn n u) : Nn n (addV v u) := by
  refine ⟨addV_len h.1 k.1, fun i hi => ?_⟩
  unfold addV at hi
  obtain ⟨j, hj, rfl⟩ := List.getElem_of_mem hi
  rw [List.getElem_zipWith]
  rw [List.length_zipWith] at hj
  have a := h.2 _ (List.getElem_mem (l := v) (n := j) (by omega))
  have b := k.2 _ (List.getElem_mem (l := u) (n := j) (by omega))
  omega
theorem InS.nn {n : Nat} {ls : List Lin} (h : NnS n ls) {v : Vec} (q : InS n ls v) : Nn n v := by
  obtain ⟨l, hl, c, hc, rfl⟩ := q
  exact nn_add (h l hl).1 (hc.nn (h l hl).2)
theorem nn_zer (n : Nat) : Nn n (zer n) := ⟨zer_len n, fun i hi => by rw [List.eq_of_mem_replicate hi]; exact Int.le_refl _⟩
theorem Gen.nn {n : Nat} {ls : List Lin} (h : NnS n ls) {v : Vec} (q : Gen n ls v) : Nn n v := by
  induction q with
  | zero => exact nn_zer n
  | add _ hu ih => exact nn_add ih (hu.nn h)
/-- summands of a row of the grid are rows of the grid -/
theorem grid_parts {n : Nat} {g : List Vec} (G : GridOk n g) {a b : Vec} (ha : Nn n a) (hb : Nn n b) (h : addV a b ∈ g) : a ∈ g ∧ b ∈ g := by
  obtain ⟨h1, h2⟩ := (G.mem _).mp h
  have key : ∀ (j : Nat) (h1 : j < a.length) (h2 : j < b.length), a[j] + b[j] ≤ 6 := fun j j1 j2 => by
    have hj : j < (List.zipWith (· + ·) a b).length := by rw [List.length_zipWith]; omega
    have := (h2 _ (show (List.zipWith (· + ·) a b)[j] ∈ addV a b from List.getElem_mem hj)).2
    rw [List.getElem_zipWith] at this
    exact this
  have la := ha.1
  have lb := hb.1
  refine ⟨(G.mem a).mpr ⟨la, fun i hi => ?_⟩, (G.mem b).mpr ⟨lb, fun i hi => ?_⟩⟩
  · obtain ⟨j, hj, rfl⟩ := List.getElem_of_mem hi
    have k := key j hj (by omega)
    have n1 := ha.2 _ (List.getElem_mem hj)
    have n2 := hb.2 _ (List.getElem_mem (l := b) (n := j) (by omega))
    omega
  · obtain ⟨j, hj, rfl⟩ := List.getElem_of_mem hi
    have k := key j (by omega) hj
    have n1 := hb.2 _ (List.getElem_mem hj)
    have n2 := ha.2 _ (List.getElem_mem (l := a) (n := j) (by omega))
    omega
theorem sub_cancel {n : Nat} {a b : Vec} (ha : a.length = n) (hb : b.length = n) : subV (addV a b) b = a := add_sub a b (by rw [ha, hb])
theorem mn_of_nn {n : Nat} (h1 : 1 ≤ n) {v : Vec} (h : Nn n v) : 0 ≤ mn v := (mn_nn (ne_of_len h.1 h1)).mpr h.2
/-- the law's sums -/
theorem sum_iff {n : Nat} (h1 : 1 ≤ n) {g fs ss : List Vec} (G : GridOk n g) {ls ms : List Lin} (hl : NnS n ls) (hm : NnS n ms) (hf : ∀ v, v ∈ fs ↔ v ∈ g ∧ InS n ls v) (hs : ∀ v, v ∈ ss ↔ v ∈ g ∧ InS n ms v) {r : Vec} (hr : r ∈ g) :
    sumP fs ss r = true ↔ ∃ x y, InS n ls x ∧ InS n ms y ∧ r = addV x y := by
  have lr := ((G.mem r).mp hr).1
  unfold sumP
  rw [List.any_eq_true]
  constructor
  · rintro ⟨p, hp, q⟩
    obtain ⟨hp, _⟩ := List.mem_filter.mp hp
    have lp := ((G.mem p).mp ((hf p).mp hp).1).1
    refine ⟨p, subV r p, ((hf p).mp hp).2, ((hs _).mp (of_decide_eq_true q)).2, ?_⟩
    rw [addV_comm, sub_add r p (by rw [lr, lp])]
  · rintro ⟨x, y, hx, hy, rfl⟩
    have nx := hx.nn hl
    have ny := hy.nn hm
    obtain ⟨gx, gy⟩ := grid_parts G nx ny hr
    have e : subV (addV x y) x = y := by rw [addV_comm]; exact sub_cancel ny.1 nx.1
    refine ⟨x, List.mem_filter.mpr ⟨(hf x).mpr ⟨gx, hx⟩, decide_eq_true ?_⟩, decide_eq_true ?_⟩
    · rw [e]; exact mn_of_nn h1 ny
    · rw [e]; exact (hs y).mpr ⟨gy, hy⟩
/-- a sum that is not zero has a last summand that is not zero -/
theorem gen_last {n : Nat} {ls : List Lin} (h : Len n ls) {v : Vec} (q : Gen n ls v) : v = zer n ∨ ∃ a u, Gen n ls a ∧ InS n ls u ∧ u ≠ zer n ∧ v = addV a u := by
  induction q with
  | zero => exact .inl rfl
  | @add a u ha hu ih =>
    by_cases e : u = zer n
    · rw [e, add_zer' (ha.len h)]
      exact ih
    · exact .inr ⟨a, u, ha, hu, e, rfl⟩
theorem star_step {n : Nat} (h1 : 1 ≤ n) {g fs acc ds rs : List Vec} (G : GridOk n g) {ls : List Lin} (hl : NnS n ls) (hf : ∀ v, v ∈ fs ↔ v ∈ g ∧ InS n ls v) {r : Vec} (hg : g = ds ++ r :: rs) (h0 : zer n ∈ ds) (ha : ∀ v, v ∈ acc ↔ v ∈ ds ∧ Gen n ls v) :
    starP fs (zer n) acc r = true ↔ Gen n ls r := by
  have hr : r ∈ g := by rw [hg]; simp
  have lr := ((G.mem r).mp hr).1
  have srt := G.sorted
  rw [hg, List.pairwise_append] at srt
  obtain ⟨_, s2, s3⟩ := srt
  rw [List.pairwise_cons] at s2
  unfold starP
  rw [List.any_eq_true]
  constructor
  · rintro ⟨p, hp, q⟩
    obtain ⟨hp, _⟩ := List.mem_filter.mp hp
    have lp := ((G.mem p).mp ((hf p).mp hp).1).1
    have ga := ((ha _).mp (of_decide_eq_true q)).2
    have := ga.add ((hf p).mp hp).2
    rwa [sub_add r p (by rw [lr, lp])] at this
  · intro q
    have nz : r ≠ zer n := fun e => by
      have := s3 _ h0 r (by simp)
      rw [e, lin_V.ir] at this
      exact absurd this (by simp)
    rcases gen_last hl.len q with e | ⟨a, u, qa, hu, nu, rfl⟩
    · exact absurd e nz
    · have na := qa.nn hl
      have nnu := hu.nn hl
      obtain ⟨gA, gu⟩ := grid_parts G na nnu hr
      have e : subV (addV a u) u = a := sub_cancel na.1 nnu.1
      have lt := lt_add a u (by rw [na.1, nnu.1]) nnu.2 (by rw [nnu.1]; exact nu)
      have hd : a ∈ ds := by
        rw [hg] at gA
        rcases List.mem_append.mp gA with m | m
        · exact m
        · exfalso
          rcases List.mem_cons.mp m with m | m
          · rw [← m] at lt
            rw [lin_V.ir] at lt
            exact absurd lt (by simp)
          · have := lin_V.tr _ _ _ lt (s2.1 a m)
            rw [lin_V.ir] at this
            exact absurd this (by simp)
      refine ⟨u, List.mem_filter.mpr ⟨(hf u).mpr ⟨gu, hu⟩, ?_⟩, decide_eq_true ?_⟩
      · rw [e, decide_eq_false nu, decide_eq_true (mn_of_nn h1 na)]
        rfl
      · rw [e]
        exact (ha a).mpr ⟨hd, qa⟩
theorem srows_iff {n : Nat} (h1 : 1 ≤ n) {g fs : List Vec} (G : GridOk n g) {ls : List Lin} (hl : NnS n ls) (hf : ∀ v, v ∈ fs ↔ v ∈ g ∧ InS n ls v) : ∀ (rs ds acc : List Vec), g = ds ++ rs → zer n ∈ ds → (∀ v, v ∈ acc ↔ v ∈ ds ∧ Gen n ls v) → ∀ v, v ∈ srows fs (zer n) acc rs ↔ v ∈ g ∧ Gen n ls v
  | [], ds, acc, hg, h0, ha, v => by
    rw [srows, ha v, hg, List.append_nil]
  | r :: rs, ds, acc, hg, h0, ha, v => by
    have st := star_step h1 G hl hf hg h0 ha
    rw [srows]
    refine srows_iff h1 G hl hf rs (ds ++ [r]) _ (by rw [hg]; simp) (List.mem_append.mpr (.inl h0)) (fun u => ?_) v
    by_cases q : starP fs (zer n) acc r = true
    · rw [if_pos q, List.mem_append, ha u, List.mem_append, List.mem_singleton]
      constructor
      · rintro (⟨a, b⟩ | rfl)
        · exact ⟨.inl a, b⟩
        · exact ⟨.inr rfl, st.mp q⟩
      · rintro ⟨a | rfl, b⟩
        · exact .inl ⟨a, b⟩
        · exact .inr rfl
    · rw [if_neg q, ha u, List.mem_append, List.mem_singleton]
      constructor
      · rintro ⟨a, b⟩
        exact ⟨.inl a, b⟩
      · rintro ⟨a | rfl, b⟩
        · exact ⟨a, b⟩
        · exact absurd (st.mpr b) q
/-- the law's rows of a star, over the grid -/
theorem star_rows_iff {n : Nat} (h : n = 1 ∨ n = 2) {fs : List Vec} {ls : List Lin} (hl : NnS n ls) (hf : ∀ v, v ∈ fs ↔ v ∈ grid n ∧ InS n ls v) {v : Vec} : v ∈ srows fs (zer n) [zer n] (grid n).tail ↔ v ∈ grid n ∧ Gen n ls v := by
  have hz := (grid_zer h).1
  refine srows_iff (by omega) (grid_ok h) hl hf (grid n).tail [zer n] [zer n] (by rw [List.singleton_append]; exact hz) (by simp) (fun u => ?_) v
  rw [List.mem_singleton]
  constructor
  · rintro rfl
    exact ⟨rfl, .zero⟩
  · exact fun q => q.1
end Wh

namespace Wh
open PySem PySem.Spec PyProof.Rows L2

/-! ### the same is told the same -/
def sOk (x : Str) : Prop := ∀ c ∈ x.cps.toList, c < 1114112
theorem sOk_of (s : String) : sOk (Str.ofString s) := by
  intro c hc
  rw [Str.ofString_eq_toList] at hc
  obtain ⟨a, _, rfl⟩ := List.mem_map.mp hc
  have h := a.valid
  simp only [UInt32.isValidChar, Nat.isValidChar] at h
  show a.val.toNat < 1114112
  omega
theorem sOk_add {x y : Str} (h : sOk x) (k : sOk y) : sOk (x ++ y) := by
  intro c hc
  have hc' : c ∈ (x.cps ++ y.cps).toList := hc
  rw [Array.toList_append] at hc'
  rcases List.mem_append.mp hc' with q | q
  · exact h c q
  · exact k c q
theorem sOk_from : ∀ (ts : List Str) (k : Nat) (acc : Str), sOk acc → (∀ t ∈ ts, sOk t) → sOk (textFrom k acc ts)
  | [], _, acc, h, _ => h
  | t :: r, k, acc, h, ht => sOk_from r (k + 1) _ (sOk_add (sOk_add h (sOk_of _)) (ht t (by simp))) fun u hu => ht u (List.mem_cons_of_mem _ hu)
theorem sOk_list {ts : List Str} (h : ∀ t ∈ ts, sOk t) : sOk (listText ts) := sOk_add (sOk_from ts 0 _ (sOk_of _) h) (sOk_of _)
theorem sOk_join (sep : Str) (hs : sOk sep) : ∀ ts : List Str, (∀ t ∈ ts, sOk t) → sOk (Str.join sep ts)
  | [], _ => fun c hc => absurd hc (by simp [Str.join, Str.empty])
  | [x], h => h x (by simp)
  | x :: y :: r, h => sOk_add (sOk_add (h x (by simp)) hs) (sOk_join sep hs (y :: r) fun u hu => h u (List.mem_cons_of_mem _ hu))
theorem sOk_tuple {ts : List Str} (h : ∀ t ∈ ts, sOk t) : sOk (tupleText ts) := sOk_add (sOk_add (sOk_of _) (sOk_join _ (sOk_of _) ts h)) (sOk_of _)
theorem sOk_shaped {x : Str} (h : sOk x) : SeqAt.shaped (.str x) = true := by
  refine sh_of ?_ (by simp [PyData.depth])
  rw [PyData.canLay0]
  unfold PyData.strOk
  rw [Array.all_eq_true_iff_forall_mem]
  intro c hc
  exact decide_eq_true (h c (Array.mem_toList_iff.mpr hc))
/-- what is told in short -/
structure Sml (d : PyData) (W k : Nat) : Prop where
  can : PyData.canLay0 d = true
  dep : PyData.depth d ≤ k
  shw : PyData.showable d = true
  sho : PyData.intsShort 13 d = true
  wei : PyData.weight d ≤ W
  tx : sOk (PyData.shown d)
structure SmlAll (ds : List PyData) (W k : Nat) : Prop where
  can : PyData.canLayAll0 ds = true
  dep : PyData.depthAll ds ≤ k
  shw : PyData.showableAll ds = true
  sho : PyData.intsShortAll 13 ds = true
  wei : PyData.weightAll ds ≤ W
  tx : ∀ t ∈ PyData.shownAll ds, sOk t
theorem SmlAll.nil {k : Nat} : SmlAll [] 0 k where
  can := by simp [PyData.canLayAll0]
  dep := by simp [PyData.depthAll]
  shw := by simp [PyData.showableAll]
  sho := by simp [PyData.intsShortAll]
  wei := by simp [PyData.weightAll]
  tx := fun t ht => absurd ht (by simp [PyData.shownAll])
theorem SmlAll.cons {d : PyData} {ds : List PyData} {W V k : Nat} (h : Sml d W k) (r : SmlAll ds V k) : SmlAll (d :: ds) (W + 1 + V) k where
  can := by simp [PyData.canLayAll0, h.can, r.can]
  dep := by
    simp only [PyData.depthAll]
    exact Nat.max_le.mpr ⟨h.dep, r.dep⟩
  shw := by simp [PyData.showableAll, h.shw, r.shw]
  sho := by simp [PyData.intsShortAll, h.sho, r.sho]
  wei := by
    have a := h.wei
    have b := r.wei
    simp only [PyData.weightAll]
    omega
  tx := fun t ht => by
    simp only [PyData.shownAll] at ht
    rcases List.mem_cons.mp ht with rfl | q
    · exact h.tx
    · exact r.tx t q
theorem Sml.up {d : PyData} {W k W' k' : Nat} (h : Sml d W k) (hw : W ≤ W') (hk : k ≤ k') : Sml d W' k' := ⟨h.can, Nat.le_trans h.dep hk, h.shw, h.sho, Nat.le_trans h.wei hw, h.tx⟩
theorem SmlAll.up {ds : List PyData} {W k W' k' : Nat} (h : SmlAll ds W k) (hw : W ≤ W') (hk : k ≤ k') : SmlAll ds W' k' := ⟨h.can, Nat.le_trans h.dep hk, h.shw, h.sho, Nat.le_trans h.wei hw, h.tx⟩
theorem SmlAll.map {α : Type} {d : α → PyData} {W k : Nat} : ∀ l : List α, (∀ a ∈ l, Sml (d a) W k) → SmlAll (l.map d) (l.length * (W + 1)) k
  | [], _ => by
    rw [List.length_nil, Nat.zero_mul]
    exact .nil
  | a :: l, h => by
    have r := SmlAll.map l fun b hb => h b (List.mem_cons_of_mem _ hb)
    refine (SmlAll.cons (h a (by simp)) r).up ?_ (Nat.le_refl _)
    rw [List.length_cons, Nat.succ_mul]
    omega
theorem Sml.tup {ds : List PyData} {W k : Nat} (h : SmlAll ds W k) : Sml (.tuple ds) W (k + 1) where
  can := by rw [PyData.canLay0]; exact h.can
  dep := by
    have := h.dep
    simp only [PyData.depth]
    omega
  shw := by simp only [PyData.showable]; exact h.shw
  sho := by simp only [PyData.intsShort]; exact h.sho
  wei := by simp only [PyData.weight]; exact h.wei
  tx := by simp only [PyData.shown]; exact sOk_tuple h.tx
theorem Sml.lst {ds : List PyData} {W k : Nat} (h : SmlAll ds W k) : Sml (.list ds) W (k + 1) where
  can := by rw [PyData.canLay0]; exact h.can
  dep := by
    have := h.dep
    simp only [PyData.depth]
    omega
  shw := by simp only [PyData.showable]; exact h.shw
  sho := by simp only [PyData.intsShort]; exact h.sho
  wei := by simp only [PyData.weight]; exact h.wei
  tx := by simp only [PyData.shown]; exact sOk_list h.tx
theorem Sml.int {i : Int} (h : 0 ≤ i ∧ i ≤ 1000000000) : Sml (.int i) 30 0 where
  can := by simp [PyData.canLay0]
  dep := by simp [PyData.depth]
  shw := by
    simp only [PyData.showable]
    refine decide_eq_true ?_
    by_cases q : i.natAbs = 0
    · rw [q]; decide
    · have : i.natAbs.log2 < 30 := (Nat.log2_lt q).mpr (by omega)
      omega
  sho := by
    simp only [PyData.intsShort]
    exact decide_eq_true (PyData.shown_int_le (by omega))
  wei := by
    simp only [PyData.weight]
    split
    · omega
    · have q : i.natAbs ≠ 0 := fun e => by
        have : i = 0 := by omega
        subst this
        simp_all
      have : i.natAbs.log2 < 30 := (Nat.log2_lt q).mpr (by omega)
      omega
  tx := by
    simp only [PyData.shown]
    exact sOk_of _
theorem okN_of {i : Int} (h : okN i = true) : 0 ≤ i ∧ i ≤ 1000000000 := by
  unfold okN at h
  simpa using h
theorem sml_V {n : Nat} {v : Vec} (h4 : n ≤ 4) (h : okV n v) : Sml (dV v) 124 1 := by
  have := SmlAll.map (d := PyData.int) v fun i hi => Sml.int (okN_of (h.2 i hi))
  have hl := h.1
  exact Sml.tup (this.up (by omega) (Nat.le_refl _))
theorem sml_L {n : Nat} {l : Lin} (h4 : n ≤ 4) (h : OkL n l) : Sml (dL l) 1626 3 := by
  have a := (sml_V h4 h.b).up (Nat.le_refl _) (show 1 ≤ 2 by omega)
  have b := SmlAll.map (d := dV) l.2 fun v hv => sml_V h4 (h.p v hv)
  have hk := h.k
  have c := Sml.tup (b.up (show l.2.length * 125 ≤ 1500 by omega) (Nat.le_refl _))
  exact Sml.tup (SmlAll.cons a (SmlAll.cons c .nil))
theorem sml_S {n : Nat} {ls : List Lin} (h : OkS n ls) : Sml (dS n ls) 650900 5 := by
  have a := (Sml.int (i := (n : Int)) (by have := h.n4; omega)).up (Nat.le_refl _) (show 0 ≤ 4 by omega)
  have b := SmlAll.map (d := dL) ls fun l hl => sml_L h.n4 (h.l l hl)
  have hk := h.k
  have c := Sml.tup (b.up (show ls.length * 1627 ≤ 650800 by omega) (Nat.le_refl _))
  exact (Sml.tup (SmlAll.cons a (SmlAll.cons c .nil))).up (by omega) (by omega)
theorem Sml.fits {d : PyData} {W k : Nat} (h : Sml d W k) (hw : W ≤ 1048576) : (PyData.shown d).length ≤ sizeLine :=
  PyData.shown_fits (B := 13) (by decide) (by decide) (PyData.leavesShort_of_canLay0 13 d h.can h.sho) (Nat.le_trans h.wei hw)
theorem Sml.repr {d : PyData} {W k : Nat} (h : Sml d W k) (hw : W ≤ 1048576) (hk : k ≤ 64) (hd : (∃ ds, d = .list ds) ∨ ∃ ds, d = .tuple ds) (w : LS) : reprD [d] w = .ok (.str (PyData.shown d)) w := by
  have a : SeqAt.shaped d = true := sh_of h.can (Nat.le_trans h.dep hk)
  have b := h.shw
  have c := h.fits hw
  rcases hd with ⟨ds, rfl⟩ | ⟨ds, rfl⟩
  · show (if SeqAt.shaped (.list ds) = true ∧ PyData.showable (.list ds) = true ∧ (PyData.shown (.list ds)).length ≤ sizeLine then pure (.str (PyData.shown (.list ds))) else M.no : M PyData) w = _
    rw [if_pos ⟨a, b, c⟩]
    rfl
  · show (if SeqAt.shaped (.tuple ds) = true ∧ PyData.showable (.tuple ds) = true ∧ (PyData.shown (.tuple ds)).length ≤ sizeLine then pure (.str (PyData.shown (.tuple ds))) else M.no : M PyData) w = _
    rw [if_pos ⟨a, b, c⟩]
    rfl
theorem eq_str {x : Str} (h : sOk x) (w : LS) : eqD (.str x) (.str x) w = .ok (.bool true) w := by
  unfold eqD eqvD
  rw [if_pos ⟨sOk_shaped h, sOk_shaped h⟩]
  have e : PyData.eqv (.str x) (.str x) = true := by simp [PyData.eqv]
  rw [e]
  rfl
theorem t_like {d : PyData} {W k : Nat} (h : Sml d W k) (hw : W ≤ 1048576) (hk : k ≤ 64) (hd : (∃ ds, d = .list ds) ∨ ∃ ds, d = .tuple ds) (w : LS) : F_l_like [.fz d, .fz d] w = .ok (.bool true) w := by
  have r := h.repr hw hk hd w
  have st : F_l_like [.fz d, .fz d] w = finR (m_l_like [.fz d, .fz d] w) := body_r _ _ _ _
  rw [st]
  unfold m_l_like
  have v0 : varM 0 [.fz d, .fz d] w = .ok d w := rfl
  have v1 : varM 1 [.fz d, .fz d] w = .ok d w := rfl
  rw [ret_r, fin_ret]
  simp only [op_w, call_w, lcons_w, lnil_w, v0, v1, r, eq_str h.tx]
theorem t_like_S {n : Nat} {ls : List Lin} (h : OkS n ls) (w : LS) : F_l_like [.fz (dS n ls), .fz (dS n ls)] w = .ok (.bool true) w := t_like (sml_S h) (by decide) (by decide) (.inr ⟨_, rfl⟩) w
end Wh

namespace Wh
open PySem PySem.Spec PyProof.Rows L2

/-! ### draws -/
theorem ast_w (i : Nat) (fs : Ev → M (List Sl)) (ρ : Ev) (w w' : LS) (as : List Sl) (h : ρ[i]? = some .st) (e : fs ρ w = .ok as w') : aSt i fs ρ w = .ok (.st :: as) w' := by
  unfold aSt
  rw [h]
  simp only
  rw [bk e]
  rfl
theorem mod_ii {a b : Int} (h : 0 < b) (w : LS) : modD (.int a) (.int b) w = .ok (.int (a % b)) w := by
  show (if decide (0 < b) = true then pure (.int (a % b)) else M.no : M PyData) w = _
  rw [if_pos (decide_eq_true h)]
  rfl
theorem div_ii {a b : Int} (h : 0 < b ∧ b < 1073741824) (w : LS) : divD (.int a) (.int b) w = .ok (.int (a / b)) w := by
  show (if decide (0 < b ∧ b < 1073741824) = true then pure (.int (a / b)) else M.no : M PyData) w = _
  rw [if_pos (decide_eq_true h)]
  rfl
theorem add_ii (a b : Int) (w : LS) : addD (.int a) (.int b) w = .ok (.int (a + b)) w := rfl
theorem int_i (a : Int) (w : LS) : intC [.int a] w = .ok (.int a) w := rfl
theorem t_mixed (c k : Int) (hk : 0 ≤ k ∧ k ≤ 1000000000) (w : LS) : ∃ x, F_l_mixed [.fz (.int c), .fz (.int k)] w = .ok (.int x) w ∧ 0 ≤ x ∧ x < 2147483629 := by
  have big : (2 : Int) ^ 64 = 18446744073709551616 := by decide
  have hc0 : 0 ≤ c % 2147483647 := Int.emod_nonneg _ (by decide)
  have hc1 : c % 2147483647 < 2147483647 := Int.emod_lt_of_pos _ (by decide)
  generalize hy : (c % 2147483647 * (48271 + 2 * k * k) + 69621 * k + 11) % 2147483647 = y
  have hy0 : 0 ≤ y := by rw [← hy]; exact Int.emod_nonneg _ (by decide)
  have hy1 : y < 2147483647 := by rw [← hy]; exact Int.emod_lt_of_pos _ (by decide)
  refine ⟨y * 69621 % 2147483629, ?_, Int.emod_nonneg _ (by decide), Int.emod_lt_of_pos _ (by decide)⟩
  have st : F_l_mixed [.fz (.int c), .fz (.int k)] w = finR (m_l_mixed [.fz (.int c), .fz (.int k)] w) := body_r _ _ _ _
  rw [st]
  unfold m_l_mixed
  have v0 : varM 0 [.fz (.int c), .fz (.int k)] w = .ok (.int c) w := rfl
  have e1 : setM 0 (opM modD (callM intC (lCons (varM 0) lNil)) (kI 2147483647)) [.fz (.int c), .fz (.int k)] w = .ok (.nx [.fz (.int (c % 2147483647)), .fz (.int k)]) w := by
    simp only [set_w, op_w, call_w, lcons_w, lnil_w, v0, int_i, kI_w, mod_ii (show (0 : Int) < 2147483647 by decide)]
    rfl
  have u0 : varM 0 [.fz (.int (c % 2147483647)), .fz (.int k)] w = .ok (.int (c % 2147483647)) w := rfl
  have u1 : varM 1 [.fz (.int (c % 2147483647)), .fz (.int k)] w = .ok (.int k) w := rfl
  have m1 := mul_ii (i := 2) (j := k) w (.inl (by decide))
  have m2 := mul_ii (i := 2 * k) (j := k) w (.inr (by omega))
  have m3 := mul_ii (i := c % 2147483647) (j := 48271 + 2 * k * k) w (.inl (by omega))
  have m4 := mul_ii (i := 69621) (j := k) w (.inl (by decide))
  have m5 := mul_ii (i := y) (j := 69621) w (.inr (by decide))
  rw [seq_r, e1, seqR_nx, ret_r, fin_ret]
  simp only [op_w, u0, u1, kI_w, m1, m2, add_ii, m3, m4, mod_ii (show (0 : Int) < 2147483647 by decide), hy, m5, mod_ii (show (0 : Int) < 2147483629 by decide)]
structure Wf (m : Nat) (w : LS) : Prop where
  c : w.cells ≠ []
  l : w.lefts.length = w.cells.length
  a0 : 0 ≤ w.at_
  a1 : w.at_ ≤ (m : Int)
theorem Wf.up {m k : Nat} {w : LS} (h : Wf m w) (hk : m ≤ k) : Wf k w := ⟨h.c, h.l, h.a0, by have := h.a1; omega⟩
theorem stM_w {α : Type} (g : LS → R α) (ρ : Ev) (w : LS) (h : ρ[0]? = some .st) : stM 0 g ρ w = g w := by
  unfold stM
  rw [h]
theorem stIx_w (g : Int → LS → R PyData) (f : Ev → M PyData) (ρ : Ev) (w : LS) (n : Int) (h : ρ[0]? = some .st) (e : f ρ w = .ok (.int n) w) : stIx 0 g f ρ w = g n w := by
  unfold stIx
  rw [bk (show stM 0 stOk ρ w = .ok () w from stM_w _ _ _ h), bk e]
  exact stM_w _ _ _ h
abbrev drRho (L : Int) (b c d e : Sl) : Ev := [.st, .fz (.int L), b, c, d, e]
theorem t_draw {m : Nat} {w : LS} (h : Wf m w) (hm : m ≤ 1000000) {L : Int} (hL : 0 < L ∧ L < 1000) : ∃ (d : Int) (w' : LS), F_l_draw [.st, .fz (.int L)] w = .ok (.int d) w' ∧ 0 ≤ d ∧ d < L ∧ Wf (m + 1) w' := by
  have st : F_l_draw [.st, .fz (.int L)] w = finR (m_l_draw (drRho L .un .un .un .un) w) := body_r _ _ _ _
  have a0 := h.a0
  have a1 := h.a1
  have hlen : 0 < w.cells.length := List.length_pos_iff.mpr h.c
  generalize hw1 : ({ w with at_ := w.at_ + 1 } : LS) = w1
  have wc : w1.cells = w.cells := by rw [← hw1]
  have wl : w1.lefts = w.lefts := by rw [← hw1]
  have wa : w1.at_ = w.at_ + 1 := by rw [← hw1]
  have f1 : Wf (m + 1) w1 := ⟨by rw [wc]; exact h.c, by rw [wc, wl]; exact h.l, by rw [wa]; omega, by rw [wa]; push_cast; omega⟩
  have e1 : setM 2 (stM 0 stAt) (drRho L .un .un .un .un) w = .ok (.nx (drRho L (.fz (.int w.at_)) .un .un .un)) w := by
    rw [set_w, stM_w _ _ _ rfl]
    rfl
  have e2 : stPutAt 0 (opM addD (varM 2) (kI 1)) (drRho L (.fz (.int w.at_)) .un .un .un) w = .ok (.nx (drRho L (.fz (.int w.at_)) .un .un .un)) w1 := by
    unfold stPutAt
    have ev : opM addD (varM 2) (kI 1) (drRho L (.fz (.int w.at_)) .un .un .un) w = .ok (.int (w.at_ + 1)) w := rfl
    rw [bk ev]
    simp only
    rw [stM_w _ _ _ rfl, hw1]
  have hp0 : 0 ≤ w.at_ % (w.cells.length : Int) := Int.emod_nonneg _ (by omega)
  have hp1 : w.at_ % (w.cells.length : Int) < w.cells.length := Int.emod_lt_of_pos _ (by omega)
  generalize hp : w.at_ % (w.cells.length : Int) = p at hp0 hp1
  have e3 : setM 3 (opM modD (callM intC (lCons (varM 2) lNil)) (stM 0 stLen)) (drRho L (.fz (.int w.at_)) .un .un .un) w1 = .ok (.nx (drRho L (.fz (.int w.at_)) (.fz (.int p)) .un .un)) w1 := by
    have v2 : varM 2 (drRho L (.fz (.int w.at_)) .un .un .un) w1 = .ok (.int w.at_) w1 := rfl
    have sl : stM 0 stLen (drRho L (.fz (.int w.at_)) .un .un .un) w1 = .ok (.int (w.cells.length : Nat)) w1 := by
      rw [stM_w _ _ _ rfl, ← wc]
    have md := mod_ii (a := w.at_) (b := (w.cells.length : Int)) (by omega) w1
    rw [hp] at md
    simp only [set_w, op_w, call_w, lcons_w, lnil_w, v2, int_i, sl, md]
    rfl
  have hpn : p.toNat < w.cells.length := by omega
  have hpe : (p.toNat : Int) = p := Int.toNat_of_nonneg hp0
  have gl : w1.lefts[p.toNat]? = some (w.lefts[p.toNat]'(by rw [h.l]; exact hpn)) := by
    rw [wl]
    exact List.getElem?_eq_getElem _
  generalize w.lefts[p.toNat]'(by rw [h.l]; exact hpn) = lf at gl
  have gc : w1.cells[p.toNat]? = some w.cells[p.toNat] := by
    rw [wc]
    exact List.getElem?_eq_getElem _
  generalize w.cells[p.toNat] = ce at gc
  have al : L2.atI w1.lefts p = some lf := by
    have := L2.atI_nat gl
    rwa [hpe] at this
  have ac : L2.atI w1.cells p = some ce := by
    have := L2.atI_nat gc
    rwa [hpe] at this
  have e4 : setM 4 (stIx 0 stLeft (varM 3)) (drRho L (.fz (.int w.at_)) (.fz (.int p)) .un .un) w1 = .ok (.nx (drRho L (.fz (.int w.at_)) (.fz (.int p)) (.fz (.int lf)) .un)) w1 := by
    have : stIx 0 stLeft (varM 3) (drRho L (.fz (.int w.at_)) (.fz (.int p)) .un .un) w1 = .ok (.int lf) w1 := by
      rw [stIx_w stLeft (varM 3) _ w1 p rfl rfl]
      unfold stLeft
      rw [al]
    rw [set_w, this]
    rfl
  have e5 : testM (opM gtD (varM 4) (kI 0)) (drRho L (.fz (.int w.at_)) (.fz (.int p)) (.fz (.int lf)) .un) w1 = .ok (decide (0 < lf)) w1 := by
    refine test_of ?_
    have v4 : varM 4 (drRho L (.fz (.int w.at_)) (.fz (.int p)) (.fz (.int lf)) .un) w1 = .ok (.int lf) w1 := rfl
    simp only [op_w, v4, kI_w, gt_ii]
  have wfin : m_l_draw (drRho L .un .un .un .un) w = seqR (iffM (testM (opM gtD (varM 4) (kI 0))) (seqM (stPutLeft 0 (varM 3) (opM divD (varM 4) (varM 1)))
      (retM (opM modD (callM intC (lCons (varM 4) lNil)) (varM 1)))) skipM (drRho L (.fz (.int w.at_)) (.fz (.int p)) (.fz (.int lf)) .un) w1) (seqM (setM 5 (defM (lenM 2 F_l_mixed) (aCons (defM (lenM 2 F_l_mixed) (aCons (stIx 0 stCell (varM 3)) (aCons (varM 2) aNil))) (aCons (opM addD (kI 40) (varM 2)) aNil))))
      (retM (opM modD (opM divD (callM intC (lCons (opM addD (opM mulD (varM 5) (kI 2147483647)) (defM (lenM 2 F_l_mixed) (aCons (varM 5) (aCons (opM addD (kI 7) (varM 2)) aNil)))) lNil)) (kI 64)) (varM 1)))) := by
    unfold m_l_draw
    rw [seq_r, e1, seqR_nx, seq_r, e2, seqR_nx, seq_r, e3, seqR_nx, seq_r, e4, seqR_nx, seq_r]
  rw [st, wfin]
  by_cases q : 0 < lf
  · rw [decide_eq_true q] at e5
    have ix : L2.ixN w1.lefts.length p = some p.toNat := by
      unfold L2.ixN
      rw [if_pos hp0, if_pos (by rw [wl, h.l]; exact hp1)]
    refine ⟨lf % L, { w1 with lefts := w1.lefts.set p.toNat (lf / L) }, ?_, Int.emod_nonneg _ (by omega), Int.emod_lt_of_pos _ hL.1, ⟨f1.c, by rw [List.length_set]; exact f1.l, f1.a0, f1.a1⟩⟩
    have dv := div_ii (a := lf) (b := L) ⟨hL.1, by omega⟩ w1
    have p1 : stPutLeft 0 (varM 3) (opM divD (varM 4) (varM 1)) (drRho L (.fz (.int w.at_)) (.fz (.int p)) (.fz (.int lf)) .un) w1 = .ok (.nx (drRho L (.fz (.int w.at_)) (.fz (.int p)) (.fz (.int lf)) .un)) { w1 with lefts := w1.lefts.set p.toNat (lf / L) } := by
      unfold stPutLeft
      have ed : opM divD (varM 4) (varM 1) (drRho L (.fz (.int w.at_)) (.fz (.int p)) (.fz (.int lf)) .un) w1 = .ok (.int (lf / L)) w1 := by
        have v4 : varM 4 (drRho L (.fz (.int w.at_)) (.fz (.int p)) (.fz (.int lf)) .un) w1 = .ok (.int lf) w1 := rfl
        have v1 : varM 1 (drRho L (.fz (.int w.at_)) (.fz (.int p)) (.fz (.int lf)) .un) w1 = .ok (.int L) w1 := rfl
        simp only [op_w, v4, v1, dv]
      rw [bk ed, bk (show stM 0 stOk (drRho L (.fz (.int w.at_)) (.fz (.int p)) (.fz (.int lf)) .un) w1 = .ok () w1 from stM_w _ _ _ rfl), bk (show varM 3 (drRho L (.fz (.int w.at_)) (.fz (.int p)) (.fz (.int lf)) .un) w1 = .ok (.int p) w1 from rfl)]
      simp only
      rw [stM_w _ _ _ rfl]
      unfold stSetL
      rw [ix]
    rw [iff_t e5, seq_r, p1, seqR_nx, ret_r]
    generalize ({ w1 with lefts := w1.lefts.set p.toNat (lf / L) } : LS) = w2
    have v4 : varM 4 (drRho L (.fz (.int w.at_)) (.fz (.int p)) (.fz (.int lf)) .un) w2 = .ok (.int lf) w2 := rfl
    have v1 : varM 1 (drRho L (.fz (.int w.at_)) (.fz (.int p)) (.fz (.int lf)) .un) w2 = .ok (.int L) w2 := rfl
    simp only [op_w, call_w, lcons_w, lnil_w, v4, int_i, v1, mod_ii hL.1]
    rfl
  · rw [decide_eq_false q] at e5
    obtain ⟨x1, g1, g10, g11⟩ := t_mixed ce w.at_ ⟨a0, by omega⟩ w1
    obtain ⟨x2, g2, g20, g21⟩ := t_mixed x1 (40 + w.at_) ⟨by omega, by omega⟩ w1
    obtain ⟨x3, g3, g30, g31⟩ := t_mixed x2 (7 + w.at_) ⟨by omega, by omega⟩ w1
    refine ⟨(x2 * 2147483647 + x3) / 64 % L, w1, ?_, Int.emod_nonneg _ (by omega), Int.emod_lt_of_pos _ hL.1, f1⟩
    rw [iff_f e5, skip_w, seqR_nx, seq_r]
    have s1 : setM 5 (defM (lenM 2 F_l_mixed) (aCons (defM (lenM 2 F_l_mixed) (aCons (stIx 0 stCell (varM 3)) (aCons (varM 2) aNil))) (aCons (opM addD (kI 40) (varM 2)) aNil))) (drRho L (.fz (.int w.at_)) (.fz (.int p)) (.fz (.int lf)) .un) w1 = .ok (.nx (drRho L (.fz (.int w.at_)) (.fz (.int p)) (.fz (.int lf)) (.fz (.int x2)))) w1 := by
      have sc : stIx 0 stCell (varM 3) (drRho L (.fz (.int w.at_)) (.fz (.int p)) (.fz (.int lf)) .un) w1 = .ok (.int ce) w1 := by
        rw [stIx_w stCell (varM 3) _ w1 p rfl rfl]
        unfold stCell
        rw [ac]
      have v2 : varM 2 (drRho L (.fz (.int w.at_)) (.fz (.int p)) (.fz (.int lf)) .un) w1 = .ok (.int w.at_) w1 := rfl
      simp only [set_w, def_w, acons_w, anil_w, sc, v2, len_w, List.length_cons, List.length_nil, if_true, g1, op_w, kI_w, add_ii, g2, Nat.zero_add, Nat.reduceAdd]
      rfl
    rw [s1, seqR_nx, ret_r]
    have v5 : varM 5 (drRho L (.fz (.int w.at_)) (.fz (.int p)) (.fz (.int lf)) (.fz (.int x2))) w1 = .ok (.int x2) w1 := rfl
    have v2 : varM 2 (drRho L (.fz (.int w.at_)) (.fz (.int p)) (.fz (.int lf)) (.fz (.int x2))) w1 = .ok (.int w.at_) w1 := rfl
    have v1 : varM 1 (drRho L (.fz (.int w.at_)) (.fz (.int p)) (.fz (.int lf)) (.fz (.int x2))) w1 = .ok (.int L) w1 := rfl
    have m1 := mul_ii (i := x2) (j := 2147483647) w1 (.inr (by decide))
    simp only [op_w, call_w, lcons_w, lnil_w, def_w, acons_w, anil_w, v5, v2, v1, kI_w, m1, add_ii, len_w, List.length_cons, List.length_nil, if_true, g3, int_i, div_ii (show (0 : Int) < 64 ∧ (64 : Int) < 1073741824 by decide), mod_ii hL.1, Nat.zero_add, Nat.reduceAdd]
    rfl

/-! ### drawn rows -/
theorem t_draws {m0 j : Nat} {ρ : Ev} {B : Int} (hB : 0 < B ∧ B < 1000) {fe : Ev → M PyData} (hfe : ∀ (d : PyData) (w : LS), ∃ ρ1, tgN j d (wipeE ρ [j]) = some ρ1 ∧ fe ρ1 w = F_l_draw [.st, .fz (.int B)] w) (hm0 : m0 ≤ 1000000) : ∀ (ds : List PyData) (m : Nat) (w : LS), Wf m w → m + ds.length ≤ m0 →
    ∃ (v : Vec) (w' : LS), lcL [j] (tgN j) yesM fe ρ ds w = .ok (v.map .int) w' ∧ v.length = ds.length ∧ (∀ i ∈ v, 0 ≤ i ∧ i < B) ∧ Wf (m + ds.length) w'
  | [], m, w, h, _ => ⟨[], w, rfl, rfl, fun i hi => absurd hi (by simp), h⟩
  | d :: ds, m, w, h, hl => by
    rw [List.length_cons] at hl
    obtain ⟨ρ1, r1, r2⟩ := hfe d w
    obtain ⟨x, w1, e1, x0, x1, f1⟩ := t_draw h (by omega) hB
    obtain ⟨v, w', e, hv, hi, f⟩ := t_draws hB hfe hm0 ds (m + 1) w1 f1 (by omega)
    refine ⟨x :: v, w', ?_, by rw [List.length_cons, List.length_cons, hv], fun i hi' => ?_, f.up (by rw [List.length_cons]; omega)⟩
    · rw [lcL, r1]
      simp only [bind_w, calm_eq]
      have ey : yesM ρ1 w = .ok true w := rfl
      rw [ey]
      simp only [if_true, bind_w, calm_eq, r2, e1, e, pure_w]
      rfl
    · rcases List.mem_cons.mp hi' with rfl | q
      · exact ⟨x0, x1⟩
      · exact hi i q
theorem t_row {n m : Nat} {w : LS} (hn : n ≤ 4) (h : Wf m w) (hm : m ≤ 1000) {B : Int} (hB : 0 < B ∧ B < 1000) : ∃ (v : Vec) (w' : LS), F_l_row [.st, .fz (.int n), .fz (.int B)] w = .ok (dV v) w' ∧ v.length = n ∧ (∀ i ∈ v, 0 ≤ i ∧ i < B) ∧ Wf (m + n) w' := by
  have hl : (rngD 0 (n : Int).toNat).length = n := by
    unfold rngD
    rw [List.length_map, List.length_range, Int.toNat_natCast]
  obtain ⟨v, w', e, hv, hi, f⟩ := t_draws (m0 := 2000) (j := 3) (ρ := [.st, .fz (.int n), .fz (.int B), .un]) hB (fe := defM (lenM 2 F_l_draw) (aSt 0 (aCons (varM 2) aNil))) (fun d w => by
    refine ⟨[.st, .fz (.int n), .fz (.int B), .fz d], rfl, ?_⟩
    have ea : aCons (varM 2) aNil [.st, .fz (.int n), .fz (.int B), .fz d] w = .ok [.fz (.int B)] w := by
      have v2 : varM 2 [.st, .fz (.int n), .fz (.int B), .fz d] w = .ok (.int B) w := rfl
      simp only [acons_w, anil_w, v2]
    rw [def_w, ast_w 0 _ _ w w _ rfl ea]
    simp only
    rw [len_w]
    exact if_pos (show [Sl.st, Sl.fz (PyData.int B)].length = 2 from rfl)) (by omega) (rngD 0 (n : Int).toNat) m w h (by omega)
  rw [hl] at hv f
  refine ⟨v, w', ?_, hv, hi, f⟩
  have er : rng1M (lCons (varM 1) lNil) [.st, .fz (.int n), .fz (.int B), .un] w = .ok (rngD 0 (n : Int).toNat) w := by
    unfold rng1M
    have el : lCons (varM 1) lNil [.st, .fz (.int n), .fz (.int B), .un] w = .ok [.int n] w := by
      have v1 : varM 1 [.st, .fz (.int n), .fz (.int B), .un] w = .ok (.int n) w := rfl
      simp only [lcons_w, lnil_w, v1]
    rw [bk el]
    show (if -(2 ^ 62) ≤ (n : Int) ∧ (n : Int) < 2 ^ 62 then pure (rngD 0 (n : Int).toNat) else M.no : M (List PyData)) w = _
    rw [if_pos ⟨by omega, by omega⟩]
    rfl
  have lc : lcM [3] (tgN 3) (rng1M (lCons (varM 1) lNil)) yesM (defM (lenM 2 F_l_draw) (aSt 0 (aCons (varM 2) aNil))) [.st, .fz (.int n), .fz (.int B), .un] w = .ok (.list (v.map .int)) w' := by
    unfold lcM
    rw [bk er, if_pos (size_of_800 (by rw [hl]; omega)), bk e]
    rfl
  have st : F_l_row [.st, .fz (.int n), .fz (.int B)] w = finR (m_l_row [.st, .fz (.int n), .fz (.int B), .un] w) := body_r _ _ _ _
  rw [st]
  unfold m_l_row
  rw [ret_r, fin_ret]
  have tl : ∀ w, tupleD [.list (v.map .int)] w = .ok (dV v) w := fun _ => rfl
  simp only [call_w, lcons_w, lnil_w, lc, tl]
end Wh

namespace Wh
open PySem PySem.Spec PyProof.Rows L2

/-! ### drawn sets -/
def Sm (n : Nat) (v : Vec) : Prop := v.length = n ∧ ∀ i ∈ v, 0 ≤ i ∧ i ≤ 2
structure Dr (n : Nat) (l : Lin) : Prop where
  b : Sm n l.1
  k : l.2.length ≤ 2
  p : ∀ v ∈ l.2, Sm n v ∧ pos v = true
  s : l.2.Pairwise fun a b => ltV a b = true
structure RowsOk (n : Nat) (rows : List Vec) : Prop where
  nd : rows.Nodup
  p : ∀ v ∈ rows, Sm n v ∧ pos v = true
abbrev liRho (n : Nat) (fnd : List Lin) (M : Int) (k : Sl) (rows : List Vec) (j r l : Sl) : Ev := [.st, .fz (.int n), .ow (fnd.map dL), .fz (.int M), k, .ow (rows.map dV), j, r, l]
abbrev rowM : Ev → M PyData := defM (lenM 3 F_l_row) (aSt 0 (aCons (varM 1) (aCons (kI 3) aNil)))
theorem rowM_w {n m : Nat} {w : LS} (hn : n ≤ 4) (h : Wf m w) (hm : m ≤ 900) {ρ : Ev} (h0 : ρ[0]? = some .st) (h1 : ρ[1]? = some (.fz (.int n))) : ∃ (v : Vec) (w' : LS), rowM ρ w = .ok (dV v) w' ∧ Sm n v ∧ Wf (m + 4) w' := by
  obtain ⟨v, w', e, hv, hi, f⟩ := t_row hn h (by omega) (B := 3) ⟨by decide, by decide⟩
  refine ⟨v, w', ?_, ⟨hv, fun i hi' => by have := hi i hi'; omega⟩, f.up (by omega)⟩
  have ea : aCons (varM 1) (aCons (kI 3) aNil) ρ w = .ok [.fz (.int n), .fz (.int 3)] w := by
    have v1 : varM 1 ρ w = .ok (.int n) w := by rw [var_w, h1]
    simp only [acons_w, anil_w, v1, kI_w]
  unfold rowM
  rw [def_w, ast_w 0 _ _ w w _ h0 ea]
  simp only
  rw [len_w]
  exact (if_pos (show [Sl.st, Sl.fz (.int n), Sl.fz (.int 3)].length = 3 from rfl)).trans e
abbrev linIn : Ev → M Fl := seqM (setM 7 rowM)
  (iffM (andM (testM (opM gtD (callM maxD (lCons (varM 7) lNil)) (kI 0))) (testM (inSlM true (varM 7) 5))) (appM 5 (varM 7)) skipM)
theorem t_lin_body {n m : Nat} (h1 : 1 ≤ n) (hn : n ≤ 4) {w : LS} (h : Wf m w) (hm : m ≤ 900) (fnd : List Lin) (M : Int) (k : Sl) (rows : List Vec) (hr : RowsOk n rows) (hz : rows.length ≤ 100) (j r l : Sl) :
    ∃ (rows' : List Vec) (r' : Sl) (w' : LS), linIn (liRho n fnd M k rows j r l) w = .ok (.nx (liRho n fnd M k rows' j r' l)) w' ∧ RowsOk n rows' ∧ rows'.length ≤ rows.length + 1 ∧ Wf (m + 4) w' := by
  obtain ⟨v, w', e, hv, f⟩ := rowM_w hn h hm (ρ := liRho n fnd M k rows j r l) rfl rfl
  have e1 : setM 7 rowM (liRho n fnd M k rows j r l) w = .ok (.nx (liRho n fnd M k rows j (.fz (dV v)) l)) w' := by
    rw [set_w, e]
    rfl
  have hmx := max_V (ne_of_len hv.1 h1) w'
  have g1 : testM (opM gtD (callM maxD (lCons (varM 7) lNil)) (kI 0)) (liRho n fnd M k rows j (.fz (dV v)) l) w' = .ok (pos v) w' := by
    refine test_of ?_
    have v7 : varM 7 (liRho n fnd M k rows j (.fz (dV v)) l) w' = .ok (dV v) w' := rfl
    simp only [op_w, call_w, lcons_w, lnil_w, v7, hmx, kI_w, gt_ii, pos]
  have ev : varM 7 (liRho n fnd M k rows j (.fz (dV v)) l) w' = .ok (dV v) w' := rfl
  have es : (liRho n fnd M k rows j (.fz (dV v)) l)[5]? = some (.ow (rows.map dV)) := rfl
  unfold linIn
  rw [seq_r, e1, seqR_nx]
  by_cases q : pos v = true
  · by_cases mm : v ∈ rows
    · refine ⟨rows, .fz (dV v), w', ?_, hr, by omega, f⟩
      rw [iff_f ((and_t (g1.trans (by rw [q]))).trans (ni_in encV ev es mm)), skip_w]
    · refine ⟨rows ++ [v], .fz (dV v), w', ?_, ⟨?_, fun u hu => ?_⟩, by rw [List.length_append, List.length_cons, List.length_nil]; omega, f⟩
      · rw [iff_t ((and_t (g1.trans (by rw [q]))).trans (ni_out encV ev es mm)), app_n (d := dV) (l := rows) (a := v) es ev (by rw [sizeLine_eq]; omega)]
        rfl
      · rw [List.nodup_append]
        refine ⟨hr.nd, by simp, fun a ha b hb e => ?_⟩
        rw [List.mem_singleton] at hb
        exact mm (hb ▸ e ▸ ha)
      · rcases List.mem_append.mp hu with a | a
        · exact hr.p u a
        · rw [List.mem_singleton.mp a]
          exact ⟨hv, q⟩
  · have q' : pos v = false := by simpa using q
    refine ⟨rows, .fz (dV v), w', ?_, hr, by omega, f⟩
    rw [iff_f (and_f (g1.trans (by rw [q']))), skip_w]
theorem t_lin_loop {n : Nat} (h1 : 1 ≤ n) (hn : n ≤ 4) (fnd : List Lin) (M : Int) (k l : Sl) : ∀ (ds : List PyData) (rows : List Vec) (m : Nat) (w : LS) (j r : Sl), Wf m w → m + 4 * ds.length ≤ 900 → RowsOk n rows → rows.length + ds.length ≤ 90 →
    ∃ (rows' : List Vec) (j' r' : Sl) (w' : LS), forL (tgN 6) linIn ds (liRho n fnd M k rows j r l) w = .ok (.nx (liRho n fnd M k rows' j' r' l)) w' ∧ RowsOk n rows' ∧ rows'.length ≤ rows.length + ds.length ∧ Wf (m + 4 * ds.length) w'
  | [], rows, m, w, j, r, h, _, hr, _ => ⟨rows, j, r, w, rfl, hr, Nat.le_refl _, h⟩
  | d :: ds, rows, m, w, j, r, h, hm, hr, hz => by
    rw [List.length_cons] at hm hz
    obtain ⟨rows1, r1, w1, e1, o1, z1, f1⟩ := t_lin_body h1 hn h (by omega) fnd M k rows hr (by omega) (.fz d) r l
    obtain ⟨rows', j', r', w', e, o, z, f⟩ := t_lin_loop h1 hn fnd M k l ds rows1 (m + 4) w1 (.fz d) r1 f1 (by omega) o1 (by omega)
    refine ⟨rows', j', r', w', ?_, o, by rw [List.length_cons]; omega, f.up (by rw [List.length_cons]; omega)⟩
    have fc := forL_cons (tgN 6) linIn d ds (liRho n fnd M k rows j r l) (liRho n fnd M k rows (.fz d) r l) w rfl
    rw [e1] at fc
    rw [fc]
    exact e
theorem ifv_t {g : Ev → M Bool} {fa fb : Ev → M PyData} {ρ : Ev} {w w' : LS} (h : g ρ w = .ok true w') : ifV g fa fb ρ w = fa ρ w' := by
  unfold ifV
  rw [bk h]
  rfl
theorem ifv_f {g : Ev → M Bool} {fa fb : Ev → M PyData} {ρ : Ev} {w w' : LS} (h : g ρ w = .ok false w') : ifV g fa fb ρ w = fb ρ w' := by
  unfold ifV
  rw [bk h]
  rfl
abbrev drawM (f : Ev → M PyData) : Ev → M PyData := defM (lenM 2 F_l_draw) (aSt 0 (aCons f aNil))
theorem drawM_w {m : Nat} {w : LS} (h : Wf m w) (hm : m ≤ 900) {ρ : Ev} {f : Ev → M PyData} {L : Int} (hL : 0 < L ∧ L < 1000) (h0 : ρ[0]? = some .st) (e : f ρ w = .ok (.int L) w) : ∃ (d : Int) (w' : LS), drawM f ρ w = .ok (.int d) w' ∧ 0 ≤ d ∧ d < L ∧ Wf (m + 1) w' := by
  obtain ⟨d, w', e', d0, d1, fw⟩ := t_draw h (by omega) hL
  refine ⟨d, w', ?_, d0, d1, fw⟩
  have ea : aCons f aNil ρ w = .ok [.fz (.int L)] w := by simp only [acons_w, anil_w, e]
  unfold drawM
  rw [def_w, ast_w 0 _ _ w w _ h0 ea]
  simp only
  rw [len_w]
  exact (if_pos (show [Sl.st, Sl.fz (.int L)].length = 2 from rfl)).trans e'
theorem rng1_w {f : Ev → M PyData} {ρ : Ev} {w w' : LS} {i : Int} (e : f ρ w = .ok (.int i) w') (h : -1000 ≤ i ∧ i ≤ 1000) : rng1M (lCons f lNil) ρ w = .ok (rngD 0 i.toNat) w' := by
  unfold rng1M
  have el : lCons f lNil ρ w = .ok [.int i] w' := by simp only [lcons_w, lnil_w, e]
  rw [bk el]
  show (if -(2 ^ 62) ≤ i ∧ i < 2 ^ 62 then pure (rngD 0 i.toNat) else M.no : M (List PyData)) w' = _
  rw [if_pos ⟨by omega, by omega⟩]
  rfl
theorem rng_len (i : Int) (n : Nat) : (rngD i n).length = n := by
  unfold rngD
  rw [List.length_map, List.length_range]
abbrev linBody : Ev → M Fl := seqM (ownM 5 lNil)
  (seqM (forM (tgN 6) (rng1M (lCons (drawM (ifV (testM (opM ltD (varM 3) (kI 3))) (kI 3) (kI 2))) lNil)) linIn)
  (fun ρ => (seqM (setM 8 (tupM (lCons rowM (lCons (callM tupleD (lCons (callM sortedD (lCons (varM 5) lNil)) lNil)) lNil))))
  (iffM (testM (inSlM true (varM 8) 2)) (appM 2 (varM 8)) skipM)) (frz 5 ρ)))
structure FndOk (n : Nat) (fnd : List Lin) : Prop where
  nd : fnd.Nodup
  p : ∀ l ∈ fnd, Dr n l
theorem t_lin_line {n m : Nat} (h1 : 1 ≤ n) (hn : n ≤ 4) {w : LS} (h : Wf m w) (hm : m ≤ 800) (fnd : List Lin) (hf : FndOk n fnd) (hz : fnd.length ≤ 100) (M : Int) (k a j r l : Sl) :
    ∃ (fnd' : List Lin) (a' j' r' l' : Sl) (w' : LS), linBody [.st, .fz (.int n), .ow (fnd.map dL), .fz (.int M), k, a, j, r, l] w = .ok (.nx [.st, .fz (.int n), .ow (fnd'.map dL), .fz (.int M), k, a', j', r', l']) w' ∧ FndOk n fnd' ∧ fnd'.length ≤ fnd.length + 1 ∧ Wf (m + 13) w' := by
  have e1 : ownM 5 lNil [.st, .fz (.int n), .ow (fnd.map dL), .fz (.int M), k, a, j, r, l] w = .ok (.nx (liRho n fnd M k [] j r l)) w := own0 5 _ w
  have gl : testM (opM ltD (varM 3) (kI 3)) (liRho n fnd M k [] j r l) w = .ok (decide (M < 3)) w := by
    refine test_of ?_
    have v3 : varM 3 (liRho n fnd M k [] j r l) w = .ok (.int M) w := rfl
    simp only [op_w, v3, kI_w, lt_ii]
  have dr : ∃ (d : Int) (w1 : LS), drawM (ifV (testM (opM ltD (varM 3) (kI 3))) (kI 3) (kI 2)) (liRho n fnd M k [] j r l) w = .ok (.int d) w1 ∧ 0 ≤ d ∧ d ≤ 2 ∧ Wf (m + 1) w1 := by
    by_cases q : M < 3
    · rw [decide_eq_true q] at gl
      obtain ⟨d, w1, e, d0, d1, f⟩ := drawM_w h (by omega) (L := 3) ⟨by decide, by decide⟩ (ρ := liRho n fnd M k [] j r l) rfl (ifv_t (fa := kI 3) (fb := kI 2) gl)
      exact ⟨d, w1, e, d0, by omega, f⟩
    · rw [decide_eq_false q] at gl
      obtain ⟨d, w1, e, d0, d1, f⟩ := drawM_w h (by omega) (L := 2) ⟨by decide, by decide⟩ (ρ := liRho n fnd M k [] j r l) rfl (ifv_f (fa := kI 3) (fb := kI 2) gl)
      exact ⟨d, w1, e, d0, by omega, f⟩
  obtain ⟨d, w1, ed, d0, d1, f1⟩ := dr
  have hl := rng_len 0 d.toNat
  obtain ⟨rows, j', r', w2, e2, o2, z2, f2⟩ := t_lin_loop h1 hn fnd M k l (rngD 0 d.toNat) [] (m + 1) w1 j r f1 (by omega) ⟨List.nodup_nil, fun v hv => absurd hv (by simp)⟩ (by rw [List.length_nil]; omega)
  rw [List.length_nil, hl] at z2
  have hf2 : forM (tgN 6) (rng1M (lCons (drawM (ifV (testM (opM ltD (varM 3) (kI 3))) (kI 3) (kI 2))) lNil)) linIn (liRho n fnd M k [] j r l) w = .ok (.nx (liRho n fnd M k rows j' r' l)) w2 := by
    rw [for_w, rng1_w ed ⟨by omega, by omega⟩]
    exact e2
  obtain ⟨v, w3, e3, hv, f3⟩ := rowM_w hn f2 (by omega) (ρ := [.st, .fz (.int n), .ow (fnd.map dL), .fz (.int M), k, .fz (.list (rows.map dV)), j', r', l]) rfl rfl
  have hs := encV.sortL (l := rows) (fun u hu => ne_of_len (o2.p u hu).1.1 h1) (by rw [sizeLine_eq]; omega)
  have e4 : setM 8 (tupM (lCons rowM (lCons (callM tupleD (lCons (callM sortedD (lCons (varM 5) lNil)) lNil)) lNil))) [.st, .fz (.int n), .ow (fnd.map dL), .fz (.int M), k, .fz (.list (rows.map dV)), j', r', l] w2 = .ok (.nx [.st, .fz (.int n), .ow (fnd.map dL), .fz (.int M), k, .fz (.list (rows.map dV)), j', r', .fz (dL (v, srt ltV rows))]) w3 := by
    have v5 : varM 5 [.st, .fz (.int n), .ow (fnd.map dL), .fz (.int M), k, .fz (.list (rows.map dV)), j', r', l] w3 = .ok (.list (rows.map dV)) w3 := rfl
    simp only [set_w, tup_w, lcons_w, lnil_w, e3, call_w, v5, hs, tup_list, List.length_cons, List.length_nil, if_pos two_size]
    rfl
  have line : Dr n (v, srt ltV rows) := by
    refine ⟨hv, ?_, fun u hu => o2.p u (srt_mem.mp hu), srt_strict lin_V o2.nd⟩
    show (srt ltV rows).length ≤ 2
    rw [srt_len]
    omega
  have fz : frz 5 (liRho n fnd M k rows j' r' l) = [.st, .fz (.int n), .ow (fnd.map dL), .fz (.int M), k, .fz (.list (rows.map dV)), j', r', l] := rfl
  have ev : varM 8 [.st, .fz (.int n), .ow (fnd.map dL), .fz (.int M), k, .fz (.list (rows.map dV)), j', r', .fz (dL (v, srt ltV rows))] w3 = .ok (dL (v, srt ltV rows)) w3 := rfl
  have es : ([.st, .fz (.int n), .ow (fnd.map dL), .fz (.int M), k, .fz (.list (rows.map dV)), j', r', .fz (dL (v, srt ltV rows))] : Ev)[2]? = some (.ow (fnd.map dL)) := rfl
  have fin : Wf (m + 13) w3 := f3.up (by omega)
  unfold linBody
  rw [seq_r, e1, seqR_nx, seq_r, hf2, seqR_nx, fz, seq_r, e4, seqR_nx]
  by_cases mm : (v, srt ltV rows) ∈ fnd
  · refine ⟨fnd, .fz (.list (rows.map dV)), j', r', .fz (dL (v, srt ltV rows)), w3, ?_, hf, by omega, fin⟩
    rw [iff_f (ni_in encL ev es mm), skip_w]
  · refine ⟨fnd ++ [(v, srt ltV rows)], .fz (.list (rows.map dV)), j', r', .fz (dL (v, srt ltV rows)), w3, ?_, ⟨?_, fun u hu => ?_⟩, by rw [List.length_append, List.length_cons, List.length_nil]; omega, fin⟩
    · rw [iff_t (ni_out encL ev es mm), app_n (d := dL) (l := fnd) (a := (v, srt ltV rows)) es ev (by rw [sizeLine_eq]; omega)]
      rfl
    · rw [List.nodup_append]
      refine ⟨hf.nd, by simp, fun a ha b hb e => ?_⟩
      rw [List.mem_singleton] at hb
      exact mm (hb ▸ e ▸ ha)
    · rcases List.mem_append.mp hu with a | a
      · exact hf.p u a
      · rw [List.mem_singleton.mp a]
        exact line
theorem t_lines_loop {n : Nat} (h1 : 1 ≤ n) (hn : n ≤ 4) (M : Int) : ∀ (ds : List PyData) (fnd : List Lin) (m : Nat) (w : LS) (k a j r l : Sl), Wf m w → m + 13 * ds.length ≤ 800 → FndOk n fnd → fnd.length + ds.length ≤ 90 →
    ∃ (fnd' : List Lin) (k' a' j' r' l' : Sl) (w' : LS), forL (tgN 4) linBody ds [.st, .fz (.int n), .ow (fnd.map dL), .fz (.int M), k, a, j, r, l] w = .ok (.nx [.st, .fz (.int n), .ow (fnd'.map dL), .fz (.int M), k', a', j', r', l']) w' ∧ FndOk n fnd' ∧ fnd'.length ≤ fnd.length + ds.length ∧ Wf (m + 13 * ds.length) w'
  | [], fnd, m, w, k, a, j, r, l, h, _, hf, _ => ⟨fnd, k, a, j, r, l, w, rfl, hf, Nat.le_refl _, h⟩
  | d :: ds, fnd, m, w, k, a, j, r, l, h, hm, hf, hz => by
    rw [List.length_cons] at hm hz
    obtain ⟨fnd1, a1, j1, r1, l1, w1, e1, o1, z1, f1⟩ := t_lin_line h1 hn h (by omega) fnd hf (by omega) M (.fz d) a j r l
    obtain ⟨fnd', k', a', j', r', l', w', e, o, z, f⟩ := t_lines_loop h1 hn M ds fnd1 (m + 13) w1 (.fz d) a1 j1 r1 l1 f1 (by omega) o1 (by omega)
    refine ⟨fnd', k', a', j', r', l', w', ?_, o, by rw [List.length_cons]; omega, f.up (by rw [List.length_cons]; omega)⟩
    have fc := forL_cons (tgN 4) linBody d ds [.st, .fz (.int n), .ow (fnd.map dL), .fz (.int M), k, a, j, r, l] [.st, .fz (.int n), .ow (fnd.map dL), .fz (.int M), .fz d, a, j, r, l] w rfl
    rw [e1] at fc
    rw [fc]
    exact e
theorem t_lines {n m : Nat} (h1 : 1 ≤ n) (hn : n ≤ 4) {w : LS} (h : Wf m w) (hm : m ≤ 700) : ∃ (ls : List Lin) (w' : LS), F_l_lines [.st, .fz (.int n)] w = .ok (dS n ls) w' ∧ ls.length ≤ 3 ∧ (∀ l ∈ ls, Dr n l) ∧ (ls.Pairwise fun a b => ltL a b = true) ∧ Wf (m + 40) w' := by
  have e0 : lNil [.st, .fz (.int n), .un, .un, .un, .un, .un, .un, .un] w = .ok [] w := lnil_w _ _
  obtain ⟨d, w1, ed, d0, d1, f1⟩ := drawM_w h (by omega) (L := 4) ⟨by decide, by decide⟩ (ρ := [.st, .fz (.int n), .un, .un, .un, .un, .un, .un, .un]) (f := kI 4) rfl (kI_w _ _ _)
  have e1 : parOM 2 3 lNil (drawM (kI 4)) [.st, .fz (.int n), .un, .un, .un, .un, .un, .un, .un] w = .ok (.nx [.st, .fz (.int n), .ow (([] : List Lin).map dL), .fz (.int d), .un, .un, .un, .un, .un]) w1 := by
    unfold parOM
    rw [bk e0, if_pos (show ([] : List PyData).length ≤ sizeLine from zero_size), bk ed]
    rfl
  have hl := rng_len 0 d.toNat
  obtain ⟨fnd, k', a', j', r', l', w2, e2, o2, z2, f2⟩ := t_lines_loop h1 hn d (rngD 0 d.toNat) [] (m + 1) w1 .un .un .un .un .un f1 (by omega) ⟨List.nodup_nil, fun v hv => absurd hv (by simp)⟩ (by rw [List.length_nil]; omega)
  rw [List.length_nil, hl] at z2
  have ef : forM (tgN 4) (rng1M (lCons (varM 3) lNil)) linBody [.st, .fz (.int n), .ow (([] : List Lin).map dL), .fz (.int d), .un, .un, .un, .un, .un] w1 = .ok (.nx [.st, .fz (.int n), .ow (fnd.map dL), .fz (.int d), k', a', j', r', l']) w2 := by
    have v3 : varM 3 [.st, .fz (.int n), .ow (([] : List Lin).map dL), .fz (.int d), .un, .un, .un, .un, .un] w1 = .ok (.int d) w1 := rfl
    rw [for_w, rng1_w v3 ⟨by omega, by omega⟩]
    exact e2
  have hs := encL.sortL (l := fnd) (fun _ _ => True.intro) (by rw [sizeLine_eq]; omega)
  refine ⟨srt ltL fnd, w2, ?_, by rw [srt_len]; omega, fun l hl => o2.p l (srt_mem.mp hl), srt_strict lin_L o2.nd, f2.up (by omega)⟩
  have st : F_l_lines [.st, .fz (.int n)] w = finR (m_l_lines [.st, .fz (.int n), .un, .un, .un, .un, .un, .un, .un] w) := body_r _ _ _ _
  rw [st]
  unfold m_l_lines
  have fz : frz 2 [.st, .fz (.int n), .ow (fnd.map dL), .fz (.int d), k', a', j', r', l'] = [.st, .fz (.int n), .fz (.list (fnd.map dL)), .fz (.int d), k', a', j', r', l'] := rfl
  rw [seq_r, e1, seqR_nx, seq_r, ef, seqR_nx, fz, ret_r, fin_ret]
  have v1 : varM 1 [.st, .fz (.int n), .fz (.list (fnd.map dL)), .fz (.int d), k', a', j', r', l'] w2 = .ok (.int n) w2 := rfl
  have v2 : varM 2 [.st, .fz (.int n), .fz (.list (fnd.map dL)), .fz (.int d), k', a', j', r', l'] w2 = .ok (.list (fnd.map dL)) w2 := rfl
  simp only [tup_w, lcons_w, lnil_w, v1, call_w, v2, hs, tup_list, List.length_cons, List.length_nil, if_pos two_size]
  rfl
/-- drawn sets are sets -/
theorem sm_okV {n : Nat} {v : Vec} (h : Sm n v) : okV n v := ⟨h.1, fun i hi => by
  have := h.2 i hi
  unfold okN
  rw [Bool.and_eq_true]
  exact ⟨decide_eq_true this.1, decide_eq_true (by omega)⟩⟩
theorem sm_nn {n : Nat} {v : Vec} (h : Sm n v) : Nn n v := ⟨h.1, fun i hi => (h.2 i hi).1⟩
theorem zer_lt {n : Nat} {v : Vec} (h : Nn n v) (hp : pos v = true) (h1 : 1 ≤ n) : ltV (zer n) v = true := by
  have := lt_add (zer n) v (by rw [zer_len, h.1]) h.2 (fun e => by
    rw [h.1] at e
    rw [e] at hp
    unfold pos at hp
    have m := mx_mem (v := zer n) (ne_of_len (zer_len n) h1)
    rw [List.eq_of_mem_replicate m] at hp
    exact absurd hp (by decide))
  rwa [zer_add h.1] at this
theorem dr_okL {n : Nat} (h1 : 1 ≤ n) {l : Lin} (h : Dr n l) : OkL n l where
  b := sm_okV h.b
  k := by have := h.k; omega
  p := fun v hv => sm_okV (h.p v hv).1
  c := List.pairwise_cons.mpr ⟨fun v hv => zer_lt (sm_nn (h.p v hv).1) (h.p v hv).2 h1, h.s⟩
theorem dr_okS {n : Nat} (h1 : 1 ≤ n) (h4 : n ≤ 4) {ls : List Lin} (hz : ls.length ≤ 3) (h : ∀ l ∈ ls, Dr n l) (hs : ls.Pairwise fun a b => ltL a b = true) : OkS n ls := ⟨h1, h4, by omega, fun l hl => dr_okL h1 (h l hl), hs⟩
theorem dr_nnS {n : Nat} {ls : List Lin} (h : ∀ l ∈ ls, Dr n l) : NnS n ls := fun l hl => ⟨sm_nn (h l hl).b, fun p hp => sm_nn ((h l hl).p p hp).1⟩
end Wh

namespace Wh
open PySem PySem.Spec PyProof.Rows L2

/-! ### cleaned lines are a set -/
theorem okV_Nn {n : Nat} {v : Vec} (h : okV n v) : Nn n v := ⟨h.1, fun i hi => (okN_of (h.2 i hi)).1⟩
theorem rowsD_len (rows : List Vec) : (rowsD rows).length ≤ rows.length := by
  have a := (ddF_nil_len (rows.filter pos) []).2
  have b := List.length_filter_le pos rows
  rw [List.length_nil] at a
  show (ddF [] (rows.filter pos)).length ≤ _
  omega
theorem cl_okL {n : Nat} (h1 : 1 ≤ n) {x : Lin} (hb : okV n x.1) (hr : ∀ v ∈ x.2, okV n v) (hz : (rowsD x.2).length ≤ 12) : OkL n (cl x) where
  b := hb
  k := by
    show (srt ltV (rowsD x.2)).length ≤ 12
    rw [srt_len]
    exact hz
  p := fun v hv => hr v (List.mem_filter.mp (dd_mem.mp (srt_mem.mp hv))).1
  c := by
    refine List.pairwise_cons.mpr ⟨fun v hv => ?_, srt_strict lin_V dd_nodup⟩
    obtain ⟨a, b⟩ := List.mem_filter.mp (dd_mem.mp (srt_mem.mp hv))
    exact zer_lt (okV_Nn (hr v a)) b h1
theorem clean_okS {n : Nat} (h1 : 1 ≤ n) (h4 : n ≤ 4) {xs : List Lin} (h : ∀ x ∈ xs, okV n x.1 ∧ (∀ v ∈ x.2, okV n v) ∧ (rowsD x.2).length ≤ 12) (hz : xs.length ≤ 400) : OkS n (clean xs) where
  n1 := h1
  n4 := h4
  k := by
    have a := ddL_len (xs.map cl) []
    rw [List.length_map, List.length_nil] at a
    show (srt ltL (dd (xs.map cl))).length ≤ 400
    rw [srt_len]
    show (ddF [] (xs.map cl)).length ≤ 400
    omega
  l := fun l hl => by
    obtain ⟨x, hx, rfl⟩ := List.mem_map.mp (dd_mem.mp (srt_mem.mp hl))
    obtain ⟨a, b, c⟩ := h x hx
    exact cl_okL h1 a b c
  c := srt_strict lin_L dd_nodup
theorem mx_okV {n : Nat} (h1 : 1 ≤ n) {v : Vec} (h : okV n v) : mx v ≤ 1000000000 := (okN_of (h.2 _ (mx_mem (ne_of_len h.1 h1)))).2

/-! ### union, sum, star of drawn sets -/
structure Two (n : Nat) (ls : List Lin) : Prop where
  n1 : 1 ≤ n
  n4 : n ≤ 4
  z : ls.length ≤ 3
  d : ∀ l ∈ ls, Dr n l
  s : ls.Pairwise fun a b => ltL a b = true
theorem Two.ok {n : Nat} {ls : List Lin} (h : Two n ls) : OkS n ls := dr_okS h.n1 h.n4 h.z h.d h.s
theorem Two.nn {n : Nat} {ls : List Lin} (h : Two n ls) : NnS n ls := dr_nnS h.d
/-- a made line: small numbers -/
structure Lo (n : Nat) (B : Int) (R : Nat) (x : Lin) : Prop where
  l : x.1.length = n
  b : ∀ i ∈ x.1, 0 ≤ i ∧ i ≤ B
  r : ∀ v ∈ x.2, Sm n v
  k : x.2.length ≤ R
theorem Dr.lo {n : Nat} {l : Lin} (h : Dr n l) : Lo n 2 2 l := ⟨h.b.1, h.b.2, fun v hv => (h.p v hv).1, h.k⟩
theorem addV_bd {v u : Vec} {B C : Int} (h : ∀ i ∈ v, 0 ≤ i ∧ i ≤ B) (k : ∀ i ∈ u, 0 ≤ i ∧ i ≤ C) : ∀ i ∈ addV v u, 0 ≤ i ∧ i ≤ B + C := fun i hi => by
  unfold addV at hi
  obtain ⟨j, hj, rfl⟩ := List.getElem_of_mem hi
  rw [List.getElem_zipWith]
  rw [List.length_zipWith] at hj
  have a := h _ (List.getElem_mem (l := v) (n := j) (by omega))
  have b := k _ (List.getElem_mem (l := u) (n := j) (by omega))
  omega
theorem Lo.fit {n : Nat} {B : Int} {R : Nat} {x : Lin} (h : Lo n B R x) (h1 : 1 ≤ n) (hB : B ≤ 1000000000) (hR : R ≤ 12) : okV n x.1 ∧ (∀ v ∈ x.2, okV n v) ∧ (rowsD x.2).length ≤ 12 := by
  refine ⟨⟨h.l, fun i hi => ?_⟩, fun v hv => sm_okV (h.r v hv), Nat.le_trans (rowsD_len _) (Nat.le_trans h.k hR)⟩
  have := h.b i hi
  unfold okN
  rw [Bool.and_eq_true]
  exact ⟨decide_eq_true this.1, decide_eq_true (by omega)⟩
theorem lo_sums {n : Nat} {ls ms : List Lin} (h : Two n ls) (k : Two n ms) : ∀ x ∈ sums ls ms, Lo n 4 4 x := fun x hx => by
  unfold sums at hx
  obtain ⟨a, ha, hx⟩ := List.mem_flatMap.mp hx
  obtain ⟨b, hb, rfl⟩ := List.mem_map.mp hx
  have A := (h.d a ha).lo
  have B := (k.d b hb).lo
  refine ⟨addV_len A.l B.l, addV_bd A.b B.b, fun v hv => ?_, ?_⟩
  · rcases List.mem_append.mp hv with q | q
    · exact A.r v q
    · exact B.r v q
  · show (a.2 ++ b.2).length ≤ 4
    have := A.k
    have := B.k
    rw [List.length_append]
    omega
theorem lo_ch {n : Nat} {ls : List Lin} (h : ∀ l ∈ ls, Dr n l) : ∀ (is : List Int) (x : Lin) (B : Int) (R : Nat), Lo n B R x → Lo n (B + 2 * is.length) (R + 3 * is.length) (chAdd ls x is)
  | [], x, B, R, hx => ⟨hx.l, fun i hi => by have := hx.b i hi; simp only [List.length_nil]; omega, hx.r, by have := hx.k; simp only [List.length_nil]; exact this⟩
  | i :: is, x, B, R, hx => by
    rw [chAdd]
    cases q : ls[i.toNat]? with
    | none =>
      refine ⟨hx.l, fun j hj => ?_, hx.r, ?_⟩
      · have := hx.b j hj
        simp only [List.length_cons]
        push_cast
        omega
      · have := hx.k
        simp only [List.length_cons]
        omega
    | some l =>
      have A := (h l (List.mem_of_getElem? q)).lo
      have step : Lo n (B + 2) (R + 3) (addV x.1 l.1, x.2 ++ l.2 ++ [l.1]) := by
        refine ⟨addV_len hx.l A.l, addV_bd hx.b A.b, fun v hv => ?_, ?_⟩
        · rcases List.mem_append.mp hv with z | z
          · rcases List.mem_append.mp z with z | z
            · exact hx.r v z
            · exact A.r v z
          · rw [List.mem_singleton.mp z]
            exact ⟨A.l, A.b⟩
        · have := A.k
          have := hx.k
          simp only [List.length_append, List.length_cons, List.length_nil]
          omega
      have r := lo_ch h is _ _ _ step
      refine ⟨r.l, fun j hj => ?_, r.r, ?_⟩
      · have := r.b j hj
        simp only [List.length_cons]
        push_cast
        omega
      · have := r.k
        simp only [List.length_cons]
        omega
theorem chs_short {k : Nat} (h : k ≤ 3) : ∀ is ∈ chs k, is.length ≤ 3 := by
  match k, h with
  | 0, _ => decide
  | 1, _ => decide
  | 2, _ => decide
  | 3, _ => decide
theorem lo_star {n : Nat} {ls : List Lin} (h : Two n ls) : ∀ x ∈ starX n ls, Lo n 6 9 x := fun x hx => by
  have z : Lo n 0 0 (zer n, []) := ⟨zer_len n, fun i hi => by rw [List.eq_of_mem_replicate hi]; omega, fun v hv => absurd hv (by simp), Nat.le_refl _⟩
  rcases List.mem_cons.mp hx with rfl | q
  · exact ⟨z.l, fun i hi => by have := z.b i hi; omega, z.r, by have := z.k; omega⟩
  · obtain ⟨is, his, rfl⟩ := List.mem_map.mp q
    have l3 := chs_short h.z is his
    have r := lo_ch h.d is (zer n, []) 0 0 z
    exact ⟨r.l, fun i hi => by have := r.b i hi; omega, r.r, by have := r.k; show (chAdd ls (zer n, []) is).2.length ≤ 9; omega⟩
theorem r_union {n : Nat} {ls ms : List Lin} (h : Two n ls) (k : Two n ms) (w : LS) : F_union [.fz (dS n ls), .fz (dS n ms)] w = .ok (dS n (clean (ls ++ ms))) w ∧ OkS n (clean (ls ++ ms)) := by
  have hz : (ls ++ ms).length ≤ 6 := by
    have := h.z
    have := k.z
    rw [List.length_append]
    omega
  refine ⟨?_, clean_okS h.n1 h.n4 (fun x hx => ?_) (by omega)⟩
  · have d := ddL_len (ls ++ ms) []
    rw [List.length_nil] at d
    rw [t_union w h.ok k.ok, if_neg (by show ¬ 400 < (ddF [] (ls ++ ms)).length; omega), clean_union h.ok k.ok]
  · rcases List.mem_append.mp hx with q | q
    · exact (h.d x q).lo.fit h.n1 (by decide) (by decide)
    · exact (k.d x q).lo.fit h.n1 (by decide) (by decide)
theorem sums_z {n : Nat} {ls ms : List Lin} (h : Two n ls) (k : Two n ms) : (sums ls ms).length ≤ 9 ∧ ls.length * ms.length ≤ 9 := by
  have a := Nat.mul_le_mul h.z k.z
  rw [sums_len]
  exact ⟨a, a⟩
theorem r_sum {n : Nat} {ls ms : List Lin} (h : Two n ls) (k : Two n ms) (w : LS) : F_sum_of [.fz (dS n ls), .fz (dS n ms)] w = .ok (dS n (clean (sums ls ms))) w ∧ OkS n (clean (sums ls ms)) := by
  obtain ⟨z1, z2⟩ := sums_z h k
  have f := fun x hx => (lo_sums h k x hx).fit h.n1 (by decide) (by decide)
  refine ⟨?_, clean_okS h.n1 h.n4 f (by omega)⟩
  rw [t_sum w h.ok k.ok, if_neg (by omega)]
  exact sum_clean w (fun x hx => ⟨mx_okV h.n1 (f x hx).1, (f x hx).2.2⟩) (by omega)
theorem r_star {n : Nat} {ls : List Lin} (h : Two n ls) (w : LS) : F_star [.fz (dS n ls)] w = .ok (dS n (clean (starX n ls))) w ∧ OkS n (clean (starX n ls)) := by
  have hc := chs_len h.z
  have f := fun x hx => (lo_star h x hx).fit h.n1 (by decide) (by decide)
  refine ⟨?_, clean_okS h.n1 h.n4 f (by unfold starX; rw [List.length_cons, List.length_map]; omega)⟩
  rw [t_star w h.ok h.z]
  exact star_clean w (fun x hx => by
    have := f x (by unfold starX; exact List.mem_cons_of_mem _ hx)
    exact ⟨mx_okV h.n1 this.1, this.2.2⟩) (by rw [List.length_map]; omega)
/-- has, of a set, of a row of the grid -/
theorem r_has {n : Nat} {ls : List Lin} (h : OkS n ls) {v : Vec} (hv : v.length = n ∧ ∀ i ∈ v, 0 ≤ i ∧ i ≤ 6) (w : LS) : F_l_has [.fz (.tuple (ls.map dL)), .fz (dV v)] w = .ok (.bool (hasB ls v)) w := by
  refine t_has h.n1 h.n4 hv.1 ?_ (fun l hl => ⟨okV_Nn (h.l l hl).b, fun p hp => okV_Nn ((h.l l hl).p p hp), (h.l l hl).k⟩) w
  have := (hv.2 _ (mx_mem (ne_of_len hv.1 h.n1))).2
  omega
theorem r_has_iff {n : Nat} {ls : List Lin} (h : OkS n ls) {v : Vec} (hv : v.length = n) : hasB ls v = true ↔ InS n ls v :=
  has_iff h.n1 hv fun l hl => ⟨okV_Nn (h.l l hl).b, fun p hp => ⟨okV_Nn ((h.l l hl).p p hp), pos_ok h.n1 (h.l l hl) p hp⟩⟩
end Wh

namespace Wh
open PySem PySem.Spec PyProof.Rows L2

/-! ### refusals -/
theorem pick_w (g : Ev → M Bool) (m1 m2 : Ev → M PyData) (ρ : Ev) (w w' : LS) (b : Bool) (h : g ρ w = .ok b w') : pickM g m1 m2 ρ w = if b = true then m1 ρ w' else m2 ρ w' := by
  unfold pickM
  rw [bk h]
  cases b <;> rfl
def refR (r : R PyData) : R PyData := match r with
  | .ok _ w' => .ok .none w'
  | .er c d w' => .ok (.list [.str (nameC c), d]) w'
  | .no => .no
abbrev rfRho (x : Str) (a b : PyData) : Ev := [.fz (.str x), .fz a, .fz b, .fz .none, .un]
theorem t_ref (x : Str) (a b : PyData) (w : LS) (r : R PyData) (h : mb_l_refusal (rfRho x a b) w = r) : F_l_refusal [.fz (.str x), .fz a, .fz b] w = refR r := by
  have st : F_l_refusal [.fz (.str x), .fz a, .fz b] w = finR (m_l_refusal [.fz (.str x), .fz a, .fz b, .un, .un] w) := body_r _ _ _ _
  rw [st]
  unfold m_l_refusal
  have e1 : setM 3 kN [.fz (.str x), .fz a, .fz b, .un, .un] w = .ok (.nx (rfRho x a b)) w := rfl
  rw [seq_r, e1, seqR_nx, seq_r]
  have e2 : tryM mb_l_refusal 3 4 (rfRho x a b) w = match mb_l_refusal (rfRho x a b) w with
    | .ok _ w' => .ok (.nx (rfRho x a b)) w'
    | .er c d w' => .ok (.nx ((rfRho x a b).set 3 (.fz (.list [.str (nameC c), d])))) w'
    | .no => .no := rfl
  rw [e2, h]
  cases r <;> rfl
theorem un_un (a b : PyData) (w : LS) : testM (opM eqD (varM 0) (kS "union")) (rfRho "union" a b) w = .ok true w := by kernel_rfl
theorem su_un (a b : PyData) (w : LS) : testM (opM eqD (varM 0) (kS "union")) (rfRho "sum" a b) w = .ok false w := by kernel_rfl
theorem su_su (a b : PyData) (w : LS) : testM (opM eqD (varM 0) (kS "sum")) (rfRho "sum" a b) w = .ok true w := by kernel_rfl
theorem st_un (a b : PyData) (w : LS) : testM (opM eqD (varM 0) (kS "union")) (rfRho "star" a b) w = .ok false w := by kernel_rfl
theorem st_su (a b : PyData) (w : LS) : testM (opM eqD (varM 0) (kS "sum")) (rfRho "star" a b) w = .ok false w := by kernel_rfl
theorem two_w (F : List Sl → M PyData) (x : Str) (a b : PyData) (w : LS) : defM (lenM 2 F) (aCons (varM 1) (aCons (varM 2) aNil)) (rfRho x a b) w = F [.fz a, .fz b] w := by
  have v1 : varM 1 (rfRho x a b) w = .ok a w := rfl
  have v2 : varM 2 (rfRho x a b) w = .ok b w := rfl
  simp only [def_w, acons_w, anil_w, v1, v2]
  rw [len_w]
  exact if_pos (show [Sl.fz a, Sl.fz b].length = 2 from rfl)
theorem ref_union (a b : PyData) (w : LS) : F_l_refusal [.fz (.str "union"), .fz a, .fz b] w = refR (F_union [.fz a, .fz b] w) := by
  refine t_ref _ a b w _ ?_
  unfold mb_l_refusal
  rw [pick_w _ _ _ _ _ _ _ (un_un a b w), if_pos rfl, two_w]
theorem ref_sum (a b : PyData) (w : LS) : F_l_refusal [.fz (.str "sum"), .fz a, .fz b] w = refR (F_sum_of [.fz a, .fz b] w) := by
  refine t_ref _ a b w _ ?_
  unfold mb_l_refusal
  rw [pick_w _ _ _ _ _ _ _ (su_un a b w), if_neg (by simp), pick_w _ _ _ _ _ _ _ (su_su a b w), if_pos rfl, two_w]
theorem ref_star (a b : PyData) (w : LS) : F_l_refusal [.fz (.str "star"), .fz a, .fz b] w = refR (F_star [.fz a] w) := by
  refine t_ref _ a b w _ ?_
  unfold mb_l_refusal
  rw [pick_w _ _ _ _ _ _ _ (st_un a b w), if_neg (by simp), pick_w _ _ _ _ _ _ _ (st_su a b w), if_neg (by simp)]
  have v1 : varM 1 (rfRho "star" a b) w = .ok a w := rfl
  simp only [def_w, acons_w, anil_w, v1]
  rw [len_w]
  exact if_pos (show [Sl.fz a].length = 1 from rfl)
theorem two_er {a b : PyData} {w : LS} {c : Cl} {d : PyData} (h : F_need_two [.fz a, .fz b] w = .er c d w) : F_union [.fz a, .fz b] w = .er c d w ∧ F_sum_of [.fz a, .fz b] w = .er c d w := by
  constructor
  · have st : F_union [.fz a, .fz b] w = finR (m_union [.fz a, .fz b] w) := body_r _ _ _ _
    rw [st]
    simp [m_union, ret_w, def_w, len_w, acons_w, anil_w, var_w, h, finR]
  · have st : F_sum_of [.fz a, .fz b] w = finR (m_sum_of [.fz a, .fz b, .un, .un, .un, .un, .un, .un] w) := body_r _ _ _ _
    have e1 : setM 2 (defM (lenM 2 F_need_two) (aCons (varM 0) (aCons (varM 1) aNil))) [.fz a, .fz b, .un, .un, .un, .un, .un, .un] w = .er c d w := by
      simp [set_w, def_w, len_w, acons_w, anil_w, var_w, h]
    rw [st]
    unfold m_sum_of
    rw [seq_r, e1, seqR_er, finR_er]
/-- a step of a check: an answer is what is due -/
theorem chk {ρ : Ev} {w : LS} {fA : Ev → M (List Sl)} {fb : Ev → M PyData} {a b x d : PyData} (h1 : fA ρ w = .ok [.fz x, .fz a, .fz b] w) (h2 : F_l_refusal [.fz x, .fz a, .fz b] w = .ok d w) (h3 : fb ρ w = .ok d w) (h4 : F_l_like [.fz d, .fz d] w = .ok (.bool true) w) :
    iffM (notM (testM (defM (lenM 2 F_l_like) (aCons (defM (lenM 3 F_l_refusal) fA) (aCons fb aNil))))) (retM (kT false)) skipM ρ w = .ok (.nx ρ) w := by
  have e1 : defM (lenM 3 F_l_refusal) fA ρ w = .ok d w := by
    rw [def_w, h1]
    simp only
    rw [len_w]
    exact (if_pos (show [Sl.fz x, Sl.fz a, Sl.fz b].length = 3 from rfl)).trans h2
  have e2 : testM (defM (lenM 2 F_l_like) (aCons (defM (lenM 3 F_l_refusal) fA) (aCons fb aNil))) ρ w = .ok true w := by
    refine test_of ?_
    rw [def_w, acons_w, e1]
    simp only [acons_w, anil_w, h3]
    rw [len_w]
    exact (if_pos (show [Sl.fz d, Sl.fz d].length = 2 from rfl)).trans h4
  have e3 : notM (testM (defM (lenM 2 F_l_like) (aCons (defM (lenM 3 F_l_refusal) fA) (aCons fb aNil)))) ρ w = .ok false w := by
    rw [not_w, e2]
    rfl
  rw [iff_f e3, skip_w]
/-- the same, the answer in a slot -/
theorem chk1 {ρ : Ev} {w : LS} {fa fb : Ev → M PyData} {d : PyData} (h2 : fa ρ w = .ok d w) (h3 : fb ρ w = .ok d w) (h4 : F_l_like [.fz d, .fz d] w = .ok (.bool true) w) :
    iffM (notM (testM (defM (lenM 2 F_l_like) (aCons fa (aCons fb aNil))))) (retM (kT false)) skipM ρ w = .ok (.nx ρ) w := by
  have e2 : testM (defM (lenM 2 F_l_like) (aCons fa (aCons fb aNil))) ρ w = .ok true w := by
    refine test_of ?_
    rw [def_w, acons_w, h2]
    simp only [acons_w, anil_w, h3]
    rw [len_w]
    exact (if_pos (show [Sl.fz d, Sl.fz d].length = 2 from rfl)).trans h4
  have e3 : notM (testM (defM (lenM 2 F_l_like) (aCons fa (aCons fb aNil)))) ρ w = .ok false w := by
    rw [not_w, e2]
    rfl
  rw [iff_f e3, skip_w]
/-- no refusal -/
theorem chkN {ρ : Ev} {w : LS} {fA : Ev → M (List Sl)} {a b x : PyData} (h1 : fA ρ w = .ok [.fz x, .fz a, .fz b] w) (h2 : F_l_refusal [.fz x, .fz a, .fz b] w = .ok .none w) :
    opM (isND true) (defM (lenM 3 F_l_refusal) fA) kN ρ w = .ok (.bool false) w ∧ opM (isND false) (defM (lenM 3 F_l_refusal) fA) kN ρ w = .ok (.bool true) w := by
  have e1 : defM (lenM 3 F_l_refusal) fA ρ w = .ok .none w := by
    rw [def_w, h1]
    simp only
    rw [len_w]
    exact (if_pos (show [Sl.fz x, Sl.fz a, Sl.fz b].length = 3 from rfl)).trans h2
  constructor
  · rw [op_w, e1]
    rfl
  · rw [op_w, e1]
    rfl
theorem chkN' {ρ : Ev} {w : LS} {fA : Ev → M (List Sl)} {a b x : PyData} (h1 : fA ρ w = .ok [.fz x, .fz a, .fz b] w) (h2 : F_l_refusal [.fz x, .fz a, .fz b] w = .ok .none w) :
    iffM (testM (opM (isND true) (defM (lenM 3 F_l_refusal) fA) kN)) (retM (kT false)) skipM ρ w = .ok (.nx ρ) w := by
  rw [iff_f (test_of (chkN h1 h2).1), skip_w]

/-! ### sets at hand -/
def okVb (n : Nat) (v : Vec) : Bool := decide (v.length = n) && v.all okN
def okLb (n : Nat) (l : Lin) : Bool := okVb n l.1 && decide (l.2.length ≤ 12) && l.2.all (okVb n) && decide ((zer n :: l.2).Pairwise fun a b => ltV a b = true)
def okSb (n : Nat) (ls : List Lin) : Bool := decide (1 ≤ n) && decide (n ≤ 4) && decide (ls.length ≤ 400) && ls.all (okLb n) && decide (ls.Pairwise fun a b => ltL a b = true)
theorem okV_of {n : Nat} {v : Vec} (h : okVb n v = true) : okV n v := by
  unfold okVb at h
  rw [Bool.and_eq_true] at h
  exact ⟨of_decide_eq_true h.1, List.all_eq_true.mp h.2⟩
theorem okL_of {n : Nat} {l : Lin} (h : okLb n l = true) : OkL n l := by
  unfold okLb at h
  rw [Bool.and_eq_true, Bool.and_eq_true, Bool.and_eq_true] at h
  obtain ⟨⟨⟨a, b⟩, c⟩, d⟩ := h
  exact ⟨okV_of a, of_decide_eq_true b, fun v hv => okV_of (List.all_eq_true.mp c v hv), of_decide_eq_true d⟩
theorem okS_of {n : Nat} {ls : List Lin} (h : okSb n ls = true) : OkS n ls := by
  unfold okSb at h
  rw [Bool.and_eq_true, Bool.and_eq_true, Bool.and_eq_true, Bool.and_eq_true] at h
  obtain ⟨⟨⟨⟨a, b⟩, c⟩, d⟩, e⟩ := h
  exact ⟨of_decide_eq_true a, of_decide_eq_true b, of_decide_eq_true c, fun l hl => okL_of (List.all_eq_true.mp d l hl), of_decide_eq_true e⟩
theorem er_tg (n : Nat) (e : Int) (w : LS) : endL n (.er e) w = .er .tg (.int e) w := rfl
theorem r_sum_er {n : Nat} {ls ms : List Lin} (w : LS) (h1 : OkS n ls) (h2 : OkS n ms) (hz : ls.length * ms.length ≤ 400) {e : Int} (h : goL [] (sums ls ms) = .er e) : F_l_refusal [.fz (.str "sum"), .fz (dS n ls), .fz (dS n ms)] w = .ok (.list [.str "TooGreat", .int e]) w := by
  rw [ref_sum, t_sum w h1 h2, if_neg (by omega), h]
  rfl
theorem r_sum_many {n : Nat} {ls ms : List Lin} (w : LS) (h1 : OkS n ls) (h2 : OkS n ms) (hz : 400 < ls.length * ms.length) : F_l_refusal [.fz (.str "sum"), .fz (dS n ls), .fz (dS n ms)] w = .ok (.list [.str "TooGreat", .int 400]) w := by
  rw [ref_sum, t_sum w h1 h2, if_pos hz]
  rfl
theorem r_sum_let {n : Nat} {ls ms : List Lin} (w : LS) (h1 : OkS n ls) (h2 : OkS n ms) (hz : ls.length * ms.length ≤ 400) (h : ∀ x ∈ sums ls ms, mx x.1 ≤ 1000000000 ∧ (rowsD x.2).length ≤ 12) : F_l_refusal [.fz (.str "sum"), .fz (dS n ls), .fz (dS n ms)] w = .ok .none w := by
  rw [ref_sum, t_sum w h1 h2, if_neg (by omega), end_ok w h (by rw [sums_len, List.length_nil]; omega)]
  rfl
theorem r_star_er {n : Nat} {ls : List Lin} (b : PyData) (w : LS) (h : OkS n ls) (h3 : ls.length ≤ 3) {e : Int} (hg : goL [(zer n, [])] ((chs ls.length).map (chL ls (zer n))) = .er e) : F_l_refusal [.fz (.str "star"), .fz (dS n ls), .fz b] w = .ok (.list [.str "TooGreat", .int e]) w := by
  rw [ref_star, t_star w h h3, hg]
  rfl
theorem r_star_many {n : Nat} {ls : List Lin} (b : PyData) (w : LS) (h : OkS n ls) (h8 : 8 < ls.length) : F_l_refusal [.fz (.str "star"), .fz (dS n ls), .fz b] w = .ok (.list [.str "TooGreat", .int 400]) w := by
  rw [ref_star, t_star_big w h h8]
  rfl
theorem r_star_let {n : Nat} {ls : List Lin} (b : PyData) (w : LS) (h : OkS n ls) (h3 : ls.length ≤ 3) (hx : ∀ x ∈ (chs ls.length).map (chL ls (zer n)), mx x.1 ≤ 1000000000 ∧ (rowsD x.2).length ≤ 12) : F_l_refusal [.fz (.str "star"), .fz (dS n ls), .fz b] w = .ok .none w := by
  have := chs_len h3
  rw [ref_star, t_star w h h3, end_ok w hx (by rw [List.length_map, List.length_cons, List.length_nil]; omega)]
  rfl
theorem like_tg400 (w : LS) : F_l_like [.fz (.list [.str "TooGreat", .int 400]), .fz (.list [.str "TooGreat", .int 400])] w = .ok (.bool true) w := by kernel_rfl
theorem like_tg12 (w : LS) : F_l_like [.fz (.list [.str "TooGreat", .int 12]), .fz (.list [.str "TooGreat", .int 12])] w = .ok (.bool true) w := by kernel_rfl
theorem like_tgG (w : LS) : F_l_like [.fz (.list [.str "TooGreat", .int 1000000000]), .fz (.list [.str "TooGreat", .int 1000000000])] w = .ok (.bool true) w := by kernel_rfl
theorem like_bs0 (w : LS) : F_l_like [.fz (.list [.str "BadSet", .int 0]), .fz (.list [.str "BadSet", .int 0])] w = .ok (.bool true) w := by kernel_rfl
theorem like_bs1 (w : LS) : F_l_like [.fz (.list [.str "BadSet", .int 1]), .fz (.list [.str "BadSet", .int 1])] w = .ok (.bool true) w := by kernel_rfl
theorem like_non (w : LS) : F_l_like [.fz .none, .fz .none] w = .ok (.bool true) w := by kernel_rfl
theorem like_un {n : Nat} {ls : List Lin} (h : OkS n ls) (w : LS) : F_l_like [.fz (.list [.str "Unlike", dS n ls]), .fz (.list [.str "Unlike", dS n ls])] w = .ok (.bool true) w := by
  have s : Sml (.str "Unlike") 6 5 := by
    refine ⟨by kernel_rfl, by simp [PyData.depth], by simp [PyData.showable], by simp [PyData.intsShort], ?_, ?_⟩
    · simp only [PyData.weight]
      decide
    · simp only [PyData.shown]
      have : (PySem.reprText "Unlike").cps.toList.all (fun c => decide (c < 1114112)) = true := by decide +kernel
      intro c hc
      exact of_decide_eq_true (List.all_eq_true.mp this c hc)
  exact t_like (Sml.lst (SmlAll.cons s (SmlAll.cons (sml_S h) .nil))) (by decide) (by decide) (.inl ⟨_, rfl⟩) w
end Wh

namespace Wh
open PySem PySem.Spec PyProof.Rows L2

/-! ### points -/
def pt (a : Int) : Lin := ([a], [])
def pts (lo : Int) (k : Nat) : List Lin := (List.range k).map fun i => pt (lo + (i : Nat))
theorem pt_lt {a b : Int} (h : a < b) : ltL (pt a) (pt b) = true := by
  show (if (⟨[a]⟩ : PySem.W.Tup Int) = ⟨[b]⟩ then _ else PySem.W.listLt [a] [b]) = true
  rw [if_neg (fun e => by
    have := congrArg PySem.W.Tup.items e
    simp at this
    omega), PySem.W.listLt, if_neg (by omega)]
  exact decide_eq_true h
theorem pts_len (lo : Int) (k : Nat) : (pts lo k).length = k := by
  unfold pts
  rw [List.length_map, List.length_range]
theorem pts_mem {lo : Int} {k : Nat} {x : Lin} (h : x ∈ pts lo k) : ∃ a : Int, x = pt a ∧ lo ≤ a ∧ a < lo + k := by
  obtain ⟨i, hi, rfl⟩ := List.mem_map.mp h
  have := List.mem_range.mp hi
  exact ⟨_, rfl, by omega, by omega⟩
theorem pts_ok {lo : Int} {k : Nat} (h0 : 0 ≤ lo) (h : lo + k ≤ 1000000000) (hk : k ≤ 400) : OkS 1 (pts lo k) where
  n1 := by omega
  n4 := by omega
  k := by rw [pts_len]; exact hk
  l := fun x hx => by
    obtain ⟨a, rfl, a1, a2⟩ := pts_mem hx
    refine ⟨⟨rfl, fun i hi => ?_⟩, Nat.zero_le _, fun v hv => absurd hv (by simp [pt]), by simp [pt]⟩
    rw [List.mem_singleton.mp hi]
    unfold okN
    rw [Bool.and_eq_true]
    exact ⟨decide_eq_true (by omega), decide_eq_true (by omega)⟩
  c := by
    unfold pts
    rw [List.pairwise_map]
    refine List.Pairwise.imp (fun {i j} h => pt_lt (by omega)) List.pairwise_lt_range
theorem pts_sums {lo lo' : Int} {k k' : Nat} (h : lo + k + (lo' + k') ≤ 1000000000) : ∀ x ∈ sums (pts lo k) (pts lo' k'), mx x.1 ≤ 1000000000 ∧ (rowsD x.2).length ≤ 12 := fun x hx => by
  unfold sums at hx
  obtain ⟨a, ha, hx⟩ := List.mem_flatMap.mp hx
  obtain ⟨b, hb, rfl⟩ := List.mem_map.mp hx
  obtain ⟨i, rfl, i1, i2⟩ := pts_mem ha
  obtain ⟨j, rfl, j1, j2⟩ := pts_mem hb
  have e : sumX (pt i) (pt j) = ([i + j], []) := rfl
  rw [e]
  refine ⟨?_, Nat.zero_le _⟩
  show i + j ≤ 1000000000
  omega

/-! ### the refusals that the law looks at -/
def oddD (n : Nat) : PyData := .tuple [.int n, .tuple [.tuple [.tuple (List.replicate (n + 1) (.int 1)), .tuple []]]]
def wideD (n : Nat) : PyData := dS (n + 1) []
theorem wide_ok {n : Nat} (h : n = 1 ∨ n = 2) : OkS (n + 1) [] := ⟨by omega, by omega, Nat.zero_le _, fun l hl => absurd hl (by simp), List.Pairwise.nil⟩
theorem need_odd {n : Nat} (h : n = 1 ∨ n = 2) (w : LS) : F_need_two [.fz (oddD n), .fz (wideD n)] w = .er .bs (.int 1) w ∧ F_star [.fz (oddD n)] w = .er .bs (.int 1) w := by
  rcases h with rfl | rfl
  · exact ⟨by kernel_rfl, by kernel_rfl⟩
  · exact ⟨by kernel_rfl, by kernel_rfl⟩
theorem need_none (w : LS) : F_need_set [.fz .none] w = .er .bs (.int 0) w := by kernel_rfl
theorem two_none {n : Nat} {ls : List Lin} (h : OkS n ls) (w : LS) : F_need_two [.fz (dS n ls), .fz .none] w = .er .bs (.int 0) w := by
  have n1 := fun w => t_need_set w h
  have n2 := fun w => need_none w
  simp [F_need_two, m_need_two, body_w, entM, seq_w, set_w, op_w, def_w, len_w, acons_w, anil_w, var_w, n1, n2, kI_w, ixS0, iff_w, test_w, ne_ii]
theorem two_wide {n : Nat} {ls : List Lin} (h12 : n = 1 ∨ n = 2) (h : OkS n ls) (w : LS) : F_need_two [.fz (dS n ls), .fz (wideD n)] w = .er .un (wideD n) w ∧ F_need_two [.fz (wideD n), .fz (dS n ls)] w = .er .un (dS n ls) w := by
  constructor
  · have := t_need_two w h (wide_ok h12)
    rw [if_neg (by omega)] at this
    exact this
  · have := t_need_two w (wide_ok h12) h
    rw [if_neg (by omega)] at this
    exact this
/-- a word that puts two sets together -/
def Word (x : Str) : Prop := ∀ (a b : PyData) (w : LS) (c : Cl) (d : PyData), F_need_two [.fz a, .fz b] w = .er c d w → F_l_refusal [.fz (.str x), .fz a, .fz b] w = .ok (.list [.str (nameC c), d]) w
theorem word_un : Word "union" := fun a b w c d h => by
  rw [ref_union, (two_er h).1]
  rfl
theorem word_su : Word "sum" := fun a b w c d h => by
  rw [ref_sum, (two_er h).2]
  rfl
abbrev rrRho (n : Nat) (ls : List Lin) (s5 s6 s7 s8 s9 s10 s11 s12 : Sl) : Ev := [.st, .fz (dS n ls), .fz (.int n), .fz (wideD n), .fz (oddD n), s5, s6, s7, s8, s9, s10, s11, s12]
abbrev lst2 (a b : Ev → M PyData) : Ev → M PyData := lstM (lCons a (lCons b lNil))
theorem lst2_w {a b : Ev → M PyData} {ρ : Ev} {w : LS} {x y : PyData} (h1 : a ρ w = .ok x w) (h2 : b ρ w = .ok y w) : lst2 a b ρ w = .ok (.list [x, y]) w := by
  simp only [lst2, lst_w, lcons_w, lnil_w, h1, h2, List.length_cons, List.length_nil, if_pos two_size, Nat.zero_add, Nat.reduceAdd]
abbrev tup2 (a b : Ev → M PyData) : Ev → M PyData := tupM (lCons a (lCons b lNil))
theorem tup2_w {a b : Ev → M PyData} {ρ : Ev} {w : LS} {x y : PyData} (h1 : a ρ w = .ok x w) (h2 : b ρ w = .ok y w) : tup2 a b ρ w = .ok (.tuple [x, y]) w := by
  simp only [tup2, tup_w, lcons_w, lnil_w, h1, h2, List.length_cons, List.length_nil, if_pos two_size, Nat.zero_add, Nat.reduceAdd]
theorem args3 {a b c : Ev → M PyData} {ρ : Ev} {w : LS} {x y z : PyData} (h1 : a ρ w = .ok x w) (h2 : b ρ w = .ok y w) (h3 : c ρ w = .ok z w) : aCons a (aCons b (aCons c aNil)) ρ w = .ok [.fz x, .fz y, .fz z] w := by
  simp only [acons_w, anil_w, h1, h2, h3]
abbrev chkM (a b c d : Ev → M PyData) : Ev → M Fl := iffM (notM (testM (defM (lenM 2 F_l_like) (aCons (defM (lenM 3 F_l_refusal) (aCons a (aCons b (aCons c aNil)))) (aCons d aNil))))) (retM (kT false)) skipM
theorem chkM_w {a b c d : Ev → M PyData} {ρ : Ev} {w : LS} {x y z r : PyData} (h1 : a ρ w = .ok x w) (h2 : b ρ w = .ok y w) (h3 : c ρ w = .ok z w) (h4 : F_l_refusal [.fz x, .fz y, .fz z] w = .ok r w) (h5 : d ρ w = .ok r w) (h6 : F_l_like [.fz r, .fz r] w = .ok (.bool true) w) : chkM a b c d ρ w = .ok (.nx ρ) w :=
  chk (args3 h1 h2 h3) h4 h5 h6
abbrev rrBody : Ev → M Fl := seqM (chkM (varM 5) (varM 1) (varM 3) (lst2 (kS "Unlike") (varM 3)))
  (seqM (chkM (varM 5) (varM 3) (varM 1) (lst2 (kS "Unlike") (varM 1)))
  (seqM (chkM (varM 5) (varM 4) (varM 3) (lst2 (kS "BadSet") (kI 1)))
  (chkM (varM 5) (varM 1) kN (lst2 (kS "BadSet") (kI 0)))))
theorem t_rr_body {n : Nat} {ls : List Lin} (h12 : n = 1 ∨ n = 2) (h : OkS n ls) {x : Str} (hx : Word x) (s6 s7 s8 s9 s10 s11 s12 : Sl) (w : LS) : rrBody (rrRho n ls (.fz (.str x)) s6 s7 s8 s9 s10 s11 s12) w = .ok (.nx (rrRho n ls (.fz (.str x)) s6 s7 s8 s9 s10 s11 s12)) w := by
  obtain ⟨a1, a2⟩ := two_wide h12 h w
  have c1 := chkM_w (a := varM 5) (b := varM 1) (c := varM 3) (d := lst2 (kS "Unlike") (varM 3)) (ρ := rrRho n ls (.fz (.str x)) s6 s7 s8 s9 s10 s11 s12) (w := w) rfl rfl rfl (hx _ _ w _ _ a1) (lst2_w rfl rfl) (like_un (wide_ok h12) w)
  have c2 := chkM_w (a := varM 5) (b := varM 3) (c := varM 1) (d := lst2 (kS "Unlike") (varM 1)) (ρ := rrRho n ls (.fz (.str x)) s6 s7 s8 s9 s10 s11 s12) (w := w) rfl rfl rfl (hx _ _ w _ _ a2) (lst2_w rfl rfl) (like_un h w)
  have c3 := chkM_w (a := varM 5) (b := varM 4) (c := varM 3) (d := lst2 (kS "BadSet") (kI 1)) (ρ := rrRho n ls (.fz (.str x)) s6 s7 s8 s9 s10 s11 s12) (w := w) rfl rfl rfl (hx _ _ w _ _ (need_odd h12 w).1) (lst2_w rfl rfl) (like_bs1 w)
  have c4 := chkM_w (a := varM 5) (b := varM 1) (c := kN) (d := lst2 (kS "BadSet") (kI 0)) (ρ := rrRho n ls (.fz (.str x)) s6 s7 s8 s9 s10 s11 s12) (w := w) rfl rfl rfl (hx _ _ w _ _ (two_none h w)) (lst2_w rfl rfl) (like_bs0 w)
  unfold rrBody
  rw [seq_r, c1, seqR_nx, seq_r, c2, seqR_nx, seq_r, c3, seqR_nx, c4]
theorem t_rr_loop {n : Nat} {ls : List Lin} (h12 : n = 1 ∨ n = 2) (h : OkS n ls) (w : LS) : forM (tgN 5) (itM listM (lst2 (kS "union") (kS "sum"))) rrBody (rrRho n ls .un .un .un .un .un .un .un .un) w = .ok (.nx (rrRho n ls (.fz (.str "sum")) .un .un .un .un .un .un .un)) w := by
  have ei : itM listM (lst2 (kS "union") (kS "sum")) (rrRho n ls .un .un .un .un .un .un .un .un) w = .ok [.str "union", .str "sum"] w := rfl
  have f1 := forL_cons (tgN 5) rrBody (.str "union") [.str "sum"] (rrRho n ls .un .un .un .un .un .un .un .un) (rrRho n ls (.fz (.str "union")) .un .un .un .un .un .un .un) w rfl
  have f2 := forL_cons (tgN 5) rrBody (.str "sum") [] (rrRho n ls (.fz (.str "union")) .un .un .un .un .un .un .un) (rrRho n ls (.fz (.str "sum")) .un .un .un .un .un .un .un) w rfl
  rw [t_rr_body h12 h word_un] at f1
  rw [t_rr_body h12 h word_su] at f2
  rw [for_w, ei]
  simp only
  rw [f1]
  simp only
  rw [f2]
  rfl
end Wh

namespace Wh
open PySem PySem.Spec PyProof.Rows L2

/-! ### what cannot be put together is refused -/
def sev (a : Int) (k : Nat) : List Vec := (List.range k).map fun i => [a, (i : Nat)]
abbrev rr2 : Ev → M Fl := parM 3 4 (lCons (tup2 (opM addD (varM 2) (kI 1)) (tupM lNil)) (lCons (tup2 (varM 2) (tupM (lCons (tup2 (opM mulD (tupM (lCons (kI 1) lNil)) (opM addD (varM 2) (kI 1))) (tupM lNil)) lNil))) lNil))
abbrev rr5 : Ev → M Fl := setM 6 (callM tupleD (lCons (lcM [7] (tgN 7) (rng1M (lCons (kI 21) lNil)) yesM (tup2 (tupM (lCons (opM addD (varM 7) (kI 1)) lNil)) (tupM lNil))) lNil))
abbrev ptsM (k : Int) : Ev → M PyData := tup2 (kI 1) (sliceM (varM 6) none (some k))
abbrev rr9 : Ev → M Fl := parM 8 9 (lCons (tup2 (kI 1) (tupM (lCons (tup2 (tupM (lCons (opM powD (kI 10) (kI 9)) lNil)) (tupM lNil)) lNil))) (lCons (callM tupleD (lCons (lcM [7] (tgN 7) (rng1M (lCons (kI 7) lNil)) yesM (tup2 (kI 7) (varM 7))) lNil)) lNil))
abbrev rr11 : Ev → M Fl := setM 10 (callM tupleD (lCons (lcM [7] (tgN 7) (rng1M (lCons (opM addD (kI 6) (drawM (kI 2))) lNil)) yesM (tup2 (kI 8) (varM 7))) lNil))
abbrev rr12 : Ev → M Fl := setM 11 (ifV (testM (opM leD (opM addD (callM lenD (lCons (varM 10) lNil)) (kI 6)) (kI 12))) kN (lst2 (kS "TooGreat") (kI 12)))
abbrev one2 (a b : Ev → M PyData) : Ev → M PyData := tup2 (kI 2) (tupM (lCons (tup2 a b) lNil))
abbrev rr13 : Ev → M Fl := setM 12 (defM (lenM 3 F_l_refusal) (aCons (kS "sum") (aCons (one2 (tup2 (kI 0) (kI 0)) (sliceM (varM 9) none (some 6))) (aCons (one2 (tup2 (kI 0) (kI 1)) (varM 10)) aNil))))
theorem rr_form : m_l_refusals_right = seqM (setM 2 (opM ixD (varM 1) (kI 0))) (seqM rr2 (seqM (forM (tgN 5) (itM listM (lst2 (kS "union") (kS "sum"))) rrBody)
  (seqM (chkM (kS "star") (varM 4) kN (lst2 (kS "BadSet") (kI 1)))
  (seqM rr5 (seqM (chkM (kS "sum") (tup2 (kI 1) (varM 6)) (ptsM 20) (lst2 (kS "TooGreat") (kI 400)))
  (seqM (iffM (testM (opM (isND true) (defM (lenM 3 F_l_refusal) (aCons (kS "sum") (aCons (ptsM 20) (aCons (ptsM 20) aNil)))) kN)) (retM (kT false)) skipM)
  (seqM (chkM (kS "star") (ptsM 9) kN (lst2 (kS "TooGreat") (kI 400)))
  (seqM rr9 (seqM (chkM (kS "sum") (varM 8) (ptsM 1) (lst2 (kS "TooGreat") (opM powD (kI 10) (kI 9))))
  (seqM rr11 (seqM rr12 (seqM rr13 (retM (defM (lenM 2 F_l_like) (aCons (varM 12) (aCons (varM 11) aNil)))))))))))))))) := rfl
theorem rr2_w {n : Nat} (h12 : n = 1 ∨ n = 2) (ls : List Lin) (w : LS) : rr2 [.st, .fz (dS n ls), .fz (.int n), .un, .un, .un, .un, .un, .un, .un, .un, .un, .un] w = .ok (.nx (rrRho n ls .un .un .un .un .un .un .un .un)) w := by
  rcases h12 with rfl | rfl
  · kernel_rfl
  · kernel_rfl
abbrev p21 : Sl := .fz (.tuple ((pts 1 21).map dL))
theorem rr5_w {n : Nat} (ls : List Lin) (x : Sl) (w : LS) : rr5 (rrRho n ls x .un .un .un .un .un .un .un) w = .ok (.nx (rrRho n ls x p21 .un .un .un .un .un .un)) w := by kernel_rfl
theorem pts20_w {n : Nat} (ls : List Lin) (x s8 s9 : Sl) (w : LS) : ptsM 20 (rrRho n ls x p21 .un s8 s9 .un .un .un) w = .ok (dS 1 (pts 1 20)) w := by kernel_rfl
theorem pts9_w {n : Nat} (ls : List Lin) (x s8 s9 : Sl) (w : LS) : ptsM 9 (rrRho n ls x p21 .un s8 s9 .un .un .un) w = .ok (dS 1 (pts 1 9)) w := by kernel_rfl
theorem pts1_w {n : Nat} (ls : List Lin) (x s8 s9 : Sl) (w : LS) : ptsM 1 (rrRho n ls x p21 .un s8 s9 .un .un .un) w = .ok (dS 1 (pts 1 1)) w := by kernel_rfl
abbrev g9 : Sl := .fz (dS 1 [pt 1000000000])
abbrev s9v : Sl := .fz (.tuple ((sev 7 7).map dV))
theorem rr9_w {n : Nat} (ls : List Lin) (x : Sl) (w : LS) : rr9 (rrRho n ls x p21 .un .un .un .un .un .un) w = .ok (.nx (rrRho n ls x p21 .un g9 s9v .un .un .un)) w := by kernel_rfl
theorem pw9 (ρ : Ev) (w : LS) : opM powD (kI 10) (kI 9) ρ w = .ok (.int 1000000000) w := by kernel_rfl
theorem great_er : goL [] (sums [pt 1000000000] (pts 1 1)) = .er 1000000000 := by kernel_rfl
abbrev setA : List Lin := [([0, 0], sev 7 6)]
abbrev setB (k : Nat) : List Lin := [([0, 1], sev 8 k)]
theorem setA_ok : OkS 2 setA := okS_of (by decide +kernel)
theorem setB6_ok : OkS 2 (setB 6) := okS_of (by decide +kernel)
theorem setB7_ok : OkS 2 (setB 7) := okS_of (by decide +kernel)
theorem setAB6 : ∀ x ∈ sums setA (setB 6), mx x.1 ≤ 1000000000 ∧ (rowsD x.2).length ≤ 12 := by decide +kernel
theorem setAB7 : goL [] (sums setA (setB 7)) = .er 12 := by kernel_rfl
abbrev t10 (k : Nat) : Sl := .fz (.tuple ((sev 8 k).map dV))
theorem rr13_w (x : PyData) (k : Nat) (hk : k = 6 ∨ k = 7) {n : Nat} (ls : List Lin) (s5 s11 : Sl) (w : LS) (hr : F_l_refusal [.fz (.str "sum"), .fz (dS 2 setA), .fz (dS 2 (setB k))] w = .ok x w) :
    rr13 (rrRho n ls s5 p21 .un g9 s9v (t10 k) s11 .un) w = .ok (.nx (rrRho n ls s5 p21 .un g9 s9v (t10 k) s11 (.fz x))) w := by
  have a1 : one2 (tup2 (kI 0) (kI 0)) (sliceM (varM 9) none (some 6)) (rrRho n ls s5 p21 .un g9 s9v (t10 k) s11 .un) w = .ok (dS 2 setA) w := by
    rcases hk with rfl | rfl
    · kernel_rfl
    · kernel_rfl
  have a2 : one2 (tup2 (kI 0) (kI 1)) (varM 10) (rrRho n ls s5 p21 .un g9 s9v (t10 k) s11 .un) w = .ok (dS 2 (setB k)) w := by
    rcases hk with rfl | rfl
    · kernel_rfl
    · kernel_rfl
  have a3 := args3 (a := kS "sum") (kS_w "sum" _ _) a1 a2
  have e1 : defM (lenM 3 F_l_refusal) (aCons (kS "sum") (aCons (one2 (tup2 (kI 0) (kI 0)) (sliceM (varM 9) none (some 6))) (aCons (one2 (tup2 (kI 0) (kI 1)) (varM 10)) aNil))) (rrRho n ls s5 p21 .un g9 s9v (t10 k) s11 .un) w = .ok x w := by
    rw [def_w, a3]
    simp only
    rw [len_w]
    exact (if_pos (show [Sl.fz (.str "sum"), Sl.fz (dS 2 setA), Sl.fz (dS 2 (setB k))].length = 3 from rfl)).trans hr
  unfold rr13
  rw [set_w, e1]
  rfl
theorem t_refusals {n m : Nat} (h12 : n = 1 ∨ n = 2) {ls : List Lin} (h : OkS n ls) {w : LS} (hw : Wf m w) (hm : m ≤ 900) : ∃ w' : LS, F_l_refusals_right [.st, .fz (dS n ls)] w = .ok (.bool true) w' ∧ Wf (m + 1) w' := by
  obtain ⟨d, w', ed, d0, d1, fw⟩ := drawM_w hw hm (L := 2) ⟨by decide, by decide⟩ (ρ := rrRho n ls (.fz (.str "sum")) p21 .un g9 s9v .un .un .un) (f := kI 2) rfl (kI_w _ _ _)
  refine ⟨w', ?_, fw⟩
  have st : F_l_refusals_right [.st, .fz (dS n ls)] w = finR (m_l_refusals_right [.st, .fz (dS n ls), .un, .un, .un, .un, .un, .un, .un, .un, .un, .un, .un] w) := body_r _ _ _ _
  have e1 : setM 2 (opM ixD (varM 1) (kI 0)) [.st, .fz (dS n ls), .un, .un, .un, .un, .un, .un, .un, .un, .un, .un, .un] w = .ok (.nx [.st, .fz (dS n ls), .fz (.int n), .un, .un, .un, .un, .un, .un, .un, .un, .un, .un]) w := rfl
  have e4 := chkM_w (a := kS "star") (b := varM 4) (c := kN) (d := lst2 (kS "BadSet") (kI 1)) (ρ := rrRho n ls (.fz (.str "sum")) .un .un .un .un .un .un .un) (w := w) (x := .str "star") (y := oddD n) (z := .none) (r := .list [.str "BadSet", .int 1]) rfl rfl rfl (by
    rw [ref_star, (need_odd h12 w).2]
    rfl) (lst2_w rfl rfl) (like_bs1 w)
  have o21 := pts_ok (lo := 1) (k := 21) (by decide) (by decide) (by decide)
  have o20 := pts_ok (lo := 1) (k := 20) (by decide) (by decide) (by decide)
  have o9 := pts_ok (lo := 1) (k := 9) (by decide) (by decide) (by decide)
  have o1 := pts_ok (lo := 1) (k := 1) (by decide) (by decide) (by decide)
  have og : OkS 1 [pt 1000000000] := okS_of (by decide +kernel)
  have l21 := pts_len 1 21
  have l20 := pts_len 1 20
  have l9 := pts_len 1 9
  have e6 := chkM_w (a := kS "sum") (b := tup2 (kI 1) (varM 6)) (c := ptsM 20) (d := lst2 (kS "TooGreat") (kI 400)) (ρ := rrRho n ls (.fz (.str "sum")) p21 .un .un .un .un .un .un) (w := w) (x := .str "sum") (y := dS 1 (pts 1 21)) (z := dS 1 (pts 1 20)) (r := .list [.str "TooGreat", .int 400]) rfl (tup2_w rfl rfl) (pts20_w ls _ _ _ w) (r_sum_many w o21 o20 (by rw [l21, l20]; decide)) (lst2_w rfl rfl) (like_tg400 w)
  have e7 := chkN' (ρ := rrRho n ls (.fz (.str "sum")) p21 .un .un .un .un .un .un) (w := w) (args3 (a := kS "sum") (kS_w "sum" _ _) (pts20_w ls _ _ _ w) (pts20_w ls _ _ _ w)) (r_sum_let w o20 o20 (by rw [l20]; decide) (pts_sums (by decide)))
  have e8 := chkM_w (a := kS "star") (b := ptsM 9) (c := kN) (d := lst2 (kS "TooGreat") (kI 400)) (ρ := rrRho n ls (.fz (.str "sum")) p21 .un .un .un .un .un .un) (w := w) (x := .str "star") (y := dS 1 (pts 1 9)) (z := .none) (r := .list [.str "TooGreat", .int 400]) rfl (pts9_w ls _ _ _ w) rfl (r_star_many .none w o9 (by rw [l9]; decide)) (lst2_w rfl rfl) (like_tg400 w)
  have e10 := chkM_w (a := kS "sum") (b := varM 8) (c := ptsM 1) (d := lst2 (kS "TooGreat") (opM powD (kI 10) (kI 9))) (ρ := rrRho n ls (.fz (.str "sum")) p21 .un g9 s9v .un .un .un) (w := w) (x := .str "sum") (y := dS 1 [pt 1000000000]) (z := dS 1 (pts 1 1)) (r := .list [.str "TooGreat", .int 1000000000]) rfl rfl (pts1_w ls _ _ _ w) (r_sum_er w og o1 (by decide) great_er) (lst2_w rfl (pw9 _ w)) (like_tgG w)
  have d2 : d = 0 ∨ d = 1 := by omega
  have er : rng1M (lCons (opM addD (kI 6) (drawM (kI 2))) lNil) (rrRho n ls (.fz (.str "sum")) p21 .un g9 s9v .un .un .un) w = .ok (rngD 0 (6 + d).toNat) w' := by
    refine rng1_w ?_ ⟨by omega, by omega⟩
    rw [op_w, kI_w]
    simp only [ed, add_ii]
  rw [st, rr_form, seq_r, e1, seqR_nx, seq_r, rr2_w h12, seqR_nx, seq_r, t_rr_loop h12 h, seqR_nx, seq_r, e4, seqR_nx, seq_r, rr5_w, seqR_nx, seq_r, e6, seqR_nx, seq_r, e7, seqR_nx, seq_r, e8, seqR_nx, seq_r, rr9_w, seqR_nx, seq_r, e10, seqR_nx, seq_r]
  rcases d2 with rfl | rfl
  · have e11 : rr11 (rrRho n ls (.fz (.str "sum")) p21 .un g9 s9v .un .un .un) w = .ok (.nx (rrRho n ls (.fz (.str "sum")) p21 .un g9 s9v (t10 6) .un .un)) w' := by
      have el : lcM [7] (tgN 7) (rng1M (lCons (opM addD (kI 6) (drawM (kI 2))) lNil)) yesM (tup2 (kI 8) (varM 7)) (rrRho n ls (.fz (.str "sum")) p21 .un g9 s9v .un .un .un) w = .ok (.list ((sev 8 6).map dV)) w' := by
        unfold lcM
        rw [bk er]
        kernel_rfl
      unfold rr11
      rw [set_w, call_w, lcons_w, el]
      rfl
    have e12 : rr12 (rrRho n ls (.fz (.str "sum")) p21 .un g9 s9v (t10 6) .un .un) w' = .ok (.nx (rrRho n ls (.fz (.str "sum")) p21 .un g9 s9v (t10 6) (.fz .none) .un)) w' := by kernel_rfl
    rw [e11, seqR_nx, seq_r, e12, seqR_nx, seq_r, rr13_w .none 6 (.inl rfl) ls _ _ w' (r_sum_let w' setA_ok setB6_ok (by decide) setAB6), seqR_nx, ret_r, fin_ret]
    have a : aCons (varM 12) (aCons (varM 11) aNil) (rrRho n ls (.fz (.str "sum")) p21 .un g9 s9v (t10 6) (.fz .none) (.fz .none)) w' = .ok [.fz .none, .fz .none] w' := rfl
    rw [def_w, a]
    simp only
    rw [len_w]
    exact (if_pos (show [Sl.fz .none, Sl.fz .none].length = 2 from rfl)).trans (like_non w')
  · have e11 : rr11 (rrRho n ls (.fz (.str "sum")) p21 .un g9 s9v .un .un .un) w = .ok (.nx (rrRho n ls (.fz (.str "sum")) p21 .un g9 s9v (t10 7) .un .un)) w' := by
      have el : lcM [7] (tgN 7) (rng1M (lCons (opM addD (kI 6) (drawM (kI 2))) lNil)) yesM (tup2 (kI 8) (varM 7)) (rrRho n ls (.fz (.str "sum")) p21 .un g9 s9v .un .un .un) w = .ok (.list ((sev 8 7).map dV)) w' := by
        unfold lcM
        rw [bk er]
        kernel_rfl
      unfold rr11
      rw [set_w, call_w, lcons_w, el]
      rfl
    have e12 : rr12 (rrRho n ls (.fz (.str "sum")) p21 .un g9 s9v (t10 7) .un .un) w' = .ok (.nx (rrRho n ls (.fz (.str "sum")) p21 .un g9 s9v (t10 7) (.fz (.list [.str "TooGreat", .int 12])) .un)) w' := by kernel_rfl
    rw [e11, seqR_nx, seq_r, e12, seqR_nx, seq_r, rr13_w (.list [.str "TooGreat", .int 12]) 7 (.inr rfl) ls _ _ w' (r_sum_er w' setA_ok setB7_ok (by decide) setAB7), seqR_nx, ret_r, fin_ret]
    have a : aCons (varM 12) (aCons (varM 11) aNil) (rrRho n ls (.fz (.str "sum")) p21 .un g9 s9v (t10 7) (.fz (.list [.str "TooGreat", .int 12])) (.fz (.list [.str "TooGreat", .int 12]))) w' = .ok [.fz (.list [.str "TooGreat", .int 12]), .fz (.list [.str "TooGreat", .int 12])] w' := rfl
    rw [def_w, a]
    simp only
    rw [len_w]
    exact (if_pos (show [Sl.fz (.list [.str "TooGreat", .int 12]), Sl.fz (.list [.str "TooGreat", .int 12])].length = 2 from rfl)).trans (like_tg12 w')
end Wh

namespace Wh
open PySem PySem.Spec PyProof.Rows L2

/-! ### unions of many lines -/
theorem pts_app (lo : Int) (a b : Nat) : pts lo a ++ pts (lo + a) b = pts lo (a + b) := by
  unfold pts
  rw [List.range_add, List.map_append, List.map_map]
  congr 1
  refine List.map_congr_left fun i _ => ?_
  show pt _ = pt _
  congr 1
  push_cast
  omega
theorem okS_nd {n : Nat} {ls : List Lin} (h : OkS n ls) : ls.Nodup := pw_nodup lin_L h.c
theorem pts_nd (lo : Int) (k : Nat) : (pts lo k).Nodup ∧ (pts lo k).Pairwise fun a b => leB ltL a b = true := by
  have c : (pts lo k).Pairwise fun a b => ltL a b = true := by
    unfold pts
    rw [List.pairwise_map]
    exact List.Pairwise.imp (fun {i j} h => pt_lt (by omega)) List.pairwise_lt_range
  exact ⟨pw_nodup lin_L c, pw_le lin_L c⟩
theorem u_many (w : LS) : F_l_refusal [.fz (.str "union"), .fz (dS 1 (pts 0 201)), .fz (dS 1 (pts 201 201))] w = .ok (.list [.str "TooGreat", .int 400]) w := by
  have e := pts_app 0 201 201
  have n := (pts_nd 0 402).1
  have d : (dd (pts 0 201 ++ pts 201 201)).length = 402 := by
    rw [show pts 0 201 ++ pts 201 201 = pts 0 402 from e, dd_self n, pts_len]
  rw [ref_union, t_union w (pts_ok (by decide) (by decide) (by decide)) (pts_ok (by decide) (by decide) (by decide)), if_pos (by rw [d]; decide)]
  rfl
theorem u_let (w : LS) : F_union [.fz (dS 1 (pts 0 200)), .fz (dS 1 (pts 200 200))] w = .ok (dS 1 (pts 0 400)) w := by
  have e : pts 0 200 ++ pts 200 200 = pts 0 400 := pts_app 0 200 200
  obtain ⟨n, s⟩ := pts_nd 0 400
  rw [t_union w (pts_ok (by decide) (by decide) (by decide)) (pts_ok (by decide) (by decide) (by decide)), e, dd_self n, if_neg (by rw [pts_len]; decide), srt_self lin_L s]
theorem u_same (w : LS) : F_union [.fz (dS 1 (pts 0 201)), .fz (dS 1 (pts 0 201))] w = .ok (dS 1 (pts 0 201)) w := by
  obtain ⟨n, s⟩ := pts_nd 0 201
  have e : srt ltL (dd (pts 0 201 ++ pts 0 201)) = pts 0 201 := by
    rw [sd_of lin_L (l := pts 0 201 ++ pts 0 201) (m := pts 0 201) fun x => by simp, dd_self n, srt_self lin_L s]
  have d : (dd (pts 0 201 ++ pts 0 201)).length = 201 := by
    rw [← srt_len (lt := ltL) (dd (pts 0 201 ++ pts 0 201)), e, pts_len]
  rw [t_union w (pts_ok (by decide) (by decide) (by decide)) (pts_ok (by decide) (by decide) (by decide)), if_neg (by rw [d]; decide), e]
abbrev ur1 : Ev → M Fl := setM 0 (callM tupleD (lCons (lcM [1] (tgN 1) (rng1M (lCons (kI 402) lNil)) yesM (tup2 (tupM (lCons (varM 1) lNil)) (tupM lNil))) lNil))
abbrev cutM (lo hi : Option Int) : Ev → M PyData := tup2 (kI 1) (sliceM (varM 0) lo hi)
abbrev unM (a b : Ev → M PyData) : Ev → M PyData := defM (lenM 2 F_union) (aCons a (aCons b aNil))
abbrev likeM (a b : Ev → M PyData) : Ev → M PyData := defM (lenM 2 F_l_like) (aCons a (aCons b aNil))
theorem ur_form : m_l_unions_right = seqM ur1 (seqM (setM 2 (defM (lenM 3 F_l_refusal) (aCons (kS "union") (aCons (cutM none (some 201)) (aCons (cutM (some 201) none) aNil)))))
  (seqM (iffM (notM (testM (likeM (varM 2) (lst2 (kS "TooGreat") (kI 400))))) (retM (kT false)) skipM)
  (seqM (iffM (notM (testM (likeM (unM (cutM none (some 200)) (cutM (some 200) (some 400))) (cutM none (some 400))))) (retM (kT false)) skipM)
  (retM (likeM (unM (cutM none (some 201)) (cutM none (some 201))) (cutM none (some 201))))))) := rfl
abbrev urRho (x : Sl) : Ev := [.fz (.tuple ((pts 0 402).map dL)), .un, x]
theorem ur1_w (w : LS) : ur1 [.un, .un, .un] w = .ok (.nx (urRho .un)) w := by kernel_rfl
theorem c201 (x : Sl) (w : LS) : cutM none (some 201) (urRho x) w = .ok (dS 1 (pts 0 201)) w := by kernel_rfl
theorem c201r (x : Sl) (w : LS) : cutM (some 201) none (urRho x) w = .ok (dS 1 (pts 201 201)) w := by kernel_rfl
theorem c200 (x : Sl) (w : LS) : cutM none (some 200) (urRho x) w = .ok (dS 1 (pts 0 200)) w := by kernel_rfl
theorem c200r (x : Sl) (w : LS) : cutM (some 200) (some 400) (urRho x) w = .ok (dS 1 (pts 200 200)) w := by kernel_rfl
theorem c400 (x : Sl) (w : LS) : cutM none (some 400) (urRho x) w = .ok (dS 1 (pts 0 400)) w := by kernel_rfl
theorem unM_w {a b : Ev → M PyData} {ρ : Ev} {w : LS} {x y : PyData} (h1 : a ρ w = .ok x w) (h2 : b ρ w = .ok y w) : unM a b ρ w = F_union [.fz x, .fz y] w := by
  unfold unM
  rw [def_w]
  simp only [acons_w, anil_w, h1, h2]
  rw [len_w]
  exact if_pos (show [Sl.fz x, Sl.fz y].length = 2 from rfl)
theorem likeM_w {a b : Ev → M PyData} {ρ : Ev} {w : LS} {x y : PyData} (h1 : a ρ w = .ok x w) (h2 : b ρ w = .ok y w) : likeM a b ρ w = F_l_like [.fz x, .fz y] w := by
  unfold likeM
  rw [def_w]
  simp only [acons_w, anil_w, h1, h2]
  rw [len_w]
  exact if_pos (show [Sl.fz x, Sl.fz y].length = 2 from rfl)
theorem refM_w {a b c : Ev → M PyData} {ρ : Ev} {w : LS} {x y z : PyData} (h1 : a ρ w = .ok x w) (h2 : b ρ w = .ok y w) (h3 : c ρ w = .ok z w) : defM (lenM 3 F_l_refusal) (aCons a (aCons b (aCons c aNil))) ρ w = F_l_refusal [.fz x, .fz y, .fz z] w := by
  rw [def_w, args3 h1 h2 h3]
  simp only
  rw [len_w]
  exact if_pos (show [Sl.fz x, Sl.fz y, Sl.fz z].length = 3 from rfl)
theorem t_unions (w : LS) : F_l_unions_right [] w = .ok (.bool true) w := by
  have st : F_l_unions_right [] w = finR (m_l_unions_right [.un, .un, .un] w) := body_r _ _ _ _
  have r1 := refM_w (a := kS "union") (kS_w "union" _ _) (c201 .un w) (c201r .un w)
  have e2 : setM 2 (defM (lenM 3 F_l_refusal) (aCons (kS "union") (aCons (cutM none (some 201)) (aCons (cutM (some 201) none) aNil)))) (urRho .un) w = .ok (.nx (urRho (.fz (.list [.str "TooGreat", .int 400])))) w := by
    rw [set_w, r1, u_many]
    rfl
  have e3 := chk1 (ρ := urRho (.fz (.list [.str "TooGreat", .int 400]))) (fa := varM 2) (fb := lst2 (kS "TooGreat") (kI 400)) (w := w) (d := .list [.str "TooGreat", .int 400]) rfl (lst2_w rfl rfl) (like_tg400 w)
  have o4 := pts_ok (lo := 0) (k := 400) (by decide) (by decide) (by decide)
  have o2 := pts_ok (lo := 0) (k := 201) (by decide) (by decide) (by decide)
  have e4 := chk1 (ρ := urRho (.fz (.list [.str "TooGreat", .int 400]))) (fa := unM (cutM none (some 200)) (cutM (some 200) (some 400))) (fb := cutM none (some 400)) (w := w) ((unM_w (c200 _ w) (c200r _ w)).trans (u_let w)) (c400 _ w) (t_like_S o4 w)
  have e5 := likeM_w ((unM_w (c201 (.fz (.list [.str "TooGreat", .int 400])) w) (c201 _ w)).trans (u_same w)) (c201 _ w)
  rw [st, ur_form, seq_r, ur1_w, seqR_nx, seq_r, e2, seqR_nx, seq_r, e3, seqR_nx, seq_r, e4, seqR_nx, ret_r, fin_ret, e5]
  exact t_like_S o2 w

/-! ### great bases, thirteen periods -/
def stp (k : Nat) : List Vec := (List.range k).map fun i => [1 + (i : Nat), 12 - (i : Nat)]
def mst : List Vec := (List.range 6).map fun i => [(i : Nat), 20]
abbrev msS : List Lin := [([1, 0], mst)]
abbrev W1 : List Lin := [([0, 5], stp 12)]
abbrev W2 : List Lin := [([0, 5], stp 12), ([1000000000, 1000000000], [])]
abbrev W3 : List Lin := [([0, 600000000], []), ([0, 700000000], stp 12)]
abbrev W4 : List Lin := [([0, 0], stp 7), ([1000000000, 0], [])]
abbrev W5 : List Lin := [([1000000000, 0], stp 7)]
abbrev V1 : List Lin := [([0, 5], stp 11)]
abbrev V2 : List Lin := [([1, 12], stp 12)]
abbrev V3 : List Lin := [([0, 0], stp 12)]
abbrev V4 : List Lin := [([0, 400000000], []), ([0, 600000000], [])]
abbrev V5 : List Lin := [([999999999, 0], stp 6)]
def woD (x : Str) (W : List Lin) (b : Int) : PyData := .tuple [.str x, .tuple (W.map dL), .int b]
theorem ms_ok : OkS 2 msS := okS_of (by decide +kernel)
theorem w1_r (b : PyData) (w : LS) : F_l_refusal [.fz (.str "star"), .fz (dS 2 W1), .fz b] w = .ok (.list [.str "TooGreat", .int 12]) w := r_star_er b w (okS_of (by decide +kernel)) (by decide) (by kernel_rfl)
theorem w2_r (b : PyData) (w : LS) : F_l_refusal [.fz (.str "star"), .fz (dS 2 W2), .fz b] w = .ok (.list [.str "TooGreat", .int 12]) w := r_star_er b w (okS_of (by decide +kernel)) (by decide) (by kernel_rfl)
theorem w3_r (b : PyData) (w : LS) : F_l_refusal [.fz (.str "star"), .fz (dS 2 W3), .fz b] w = .ok (.list [.str "TooGreat", .int 1000000000]) w := r_star_er b w (okS_of (by decide +kernel)) (by decide) (by kernel_rfl)
theorem w4_r (w : LS) : F_l_refusal [.fz (.str "sum"), .fz (dS 2 W4), .fz (dS 2 msS)] w = .ok (.list [.str "TooGreat", .int 12]) w := r_sum_er w (okS_of (by decide +kernel)) ms_ok (by decide) (by kernel_rfl)
theorem w5_r (w : LS) : F_l_refusal [.fz (.str "sum"), .fz (dS 2 W5), .fz (dS 2 msS)] w = .ok (.list [.str "TooGreat", .int 1000000000]) w := r_sum_er w (okS_of (by decide +kernel)) ms_ok (by decide) (by kernel_rfl)
theorem v1_r (w : LS) : F_l_refusal [.fz (.str "star"), .fz (dS 2 V1), .fz .none] w = .ok .none w := r_star_let .none w (okS_of (by decide +kernel)) (by decide) (by decide +kernel)
theorem v2_r (w : LS) : F_l_refusal [.fz (.str "star"), .fz (dS 2 V2), .fz .none] w = .ok .none w := r_star_let .none w (okS_of (by decide +kernel)) (by decide) (by decide +kernel)
theorem v3_r (w : LS) : F_l_refusal [.fz (.str "star"), .fz (dS 2 V3), .fz .none] w = .ok .none w := r_star_let .none w (okS_of (by decide +kernel)) (by decide) (by decide +kernel)
theorem v4_r (w : LS) : F_l_refusal [.fz (.str "star"), .fz (dS 2 V4), .fz .none] w = .ok .none w := r_star_let .none w (okS_of (by decide +kernel)) (by decide) (by decide +kernel)
theorem v5_r (w : LS) : F_l_refusal [.fz (.str "sum"), .fz (dS 2 V5), .fz (dS 2 msS)] w = .ok .none w := r_sum_let w (okS_of (by decide +kernel)) ms_ok (by decide) (by decide +kernel)
end Wh

namespace Wh
open PySem PySem.Spec PyProof.Rows L2

abbrev gr1 : Ev → M Fl := setM 0 (callM tupleD (lCons (lcM [1] (tgN 1) (rng2M (lCons (kI 1) (lCons (kI 13) lNil))) yesM (tup2 (varM 1) (opM subD (kI 13) (varM 1)))) lNil))
abbrev gr2 : Ev → M Fl := parM 2 3 (lCons (opM powD (kI 10) (kI 9)) (lCons (callM tupleD (lCons (lcM [1] (tgN 1) (rng1M (lCons (kI 6) lNil)) yesM (tup2 (varM 1) (kI 20))) lNil)) lNil))
abbrev tup1 (a : Ev → M PyData) : Ev → M PyData := tupM (lCons a lNil)
abbrev tup3 (a b c : Ev → M PyData) : Ev → M PyData := tupM (lCons a (lCons b (lCons c lNil)))
abbrev gr3 : Ev → M Fl := ownM 4 (lCons (tup3 (kS "star") (tup1 (tup2 (tup2 (kI 0) (kI 5)) (varM 0))) (kI 12)) (lCons (tup3 (kS "star") (tup2 (tup2 (tup2 (kI 0) (kI 5)) (varM 0)) (tup2 (tup2 (varM 2) (varM 2)) (tupM lNil))) (kI 12)) lNil))
abbrev gr4 : Ev → M Fl := appM 4 (tup3 (kS "star") (tup2 (tup2 (tup2 (kI 0) (opM mulD (kI 6) (opM powD (kI 10) (kI 8)))) (tupM lNil)) (tup2 (tup2 (kI 0) (opM mulD (kI 7) (opM powD (kI 10) (kI 8)))) (varM 0))) (varM 2))
abbrev gr5 : Ev → M Fl := appM 4 (tup3 (kS "sum") (tup2 (tup2 (tup2 (kI 0) (kI 0)) (sliceM (varM 0) none (some 7))) (tup2 (tup2 (varM 2) (kI 0)) (tupM lNil))) (kI 12))
abbrev gr6 : Ev → M Fl := appM 4 (tup3 (kS "sum") (tup1 (tup2 (tup2 (varM 2) (kI 0)) (sliceM (varM 0) none (some 7)))) (varM 2))
abbrev msM : Ev → M PyData := tup2 (kI 2) (tup1 (tup2 (tup2 (kI 1) (kI 0)) (varM 3)))
abbrev grBody : Ev → M Fl := seqM (setM 8 (defM (lenM 3 F_l_refusal) (aCons (varM 5) (aCons (tup2 (kI 2) (varM 6)) (aCons msM aNil)))))
  (iffM (notM (testM (likeM (varM 8) (lst2 (kS "TooGreat") (varM 7))))) (retM (kT false)) skipM)
abbrev gr7 : Ev → M Fl := ownM 9 (lCons (tup1 (tup2 (tup2 (kI 0) (kI 5)) (sliceM (varM 0) none (some 11)))) (lCons (tup1 (tup2 (tup2 (kI 1) (kI 12)) (varM 0))) (lCons (tup1 (tup2 (tup2 (kI 0) (kI 0)) (varM 0))) lNil)))
abbrev gr8 : Ev → M Fl := appM 9 (tup2 (tup2 (tup2 (kI 0) (opM mulD (kI 4) (opM powD (kI 10) (kI 8)))) (tupM lNil)) (tup2 (tup2 (kI 0) (opM mulD (kI 6) (opM powD (kI 10) (kI 8)))) (tupM lNil)))
abbrev lsBody : Ev → M Fl := iffM (testM (opM (isND true) (defM (lenM 3 F_l_refusal) (aCons (kS "star") (aCons (tup2 (kI 2) (varM 6)) (aCons kN aNil)))) kN)) (retM (kT false)) skipM
abbrev grE : Ev → M PyData := opM (isND false) (defM (lenM 3 F_l_refusal) (aCons (kS "sum") (aCons (tup2 (kI 2) (tup1 (tup2 (tup2 (opM subD (varM 2) (kI 1)) (kI 0)) (sliceM (varM 0) none (some 6))))) (aCons msM aNil)))) kN
theorem gr_form : m_l_great_right = seqM gr1 (seqM gr2 (seqM gr3 (seqM gr4 (seqM gr5 (seqM gr6 (fun ρ => (seqM (forM (tgTup 3 (tgCons (tgN 5) (tgCons (tgN 6) (tgCons (tgN 7) tgNil)))) (itM listM (varM 4)) grBody)
  (seqM gr7 (seqM gr8 (fun ρ => (seqM (forM (tgN 6) (itM listM (varM 9)) lsBody) (retM grE)) (frz 9 ρ))))) (frz 4 ρ))))))) := rfl
abbrev worlds : List PyData := [woD "star" W1 12, woD "star" W2 12, woD "star" W3 1000000000, woD "sum" W4 12, woD "sum" W5 1000000000]
abbrev grRho (s1 s4 s5 s6 s7 s8 s9 : Sl) : Ev := [.fz (.tuple ((stp 12).map dV)), s1, .fz (.int 1000000000), .fz (.tuple (mst.map dV)), s4, s5, s6, s7, s8, s9]
abbrev gr0 : Ev := [.un, .un, .un, .un, .un, .un, .un, .un, .un, .un]
theorem gr1_w (w : LS) : gr1 gr0 w = .ok (.nx [.fz (.tuple ((stp 12).map dV)), .un, .un, .un, .un, .un, .un, .un, .un, .un]) w := by kernel_rfl
theorem gr2_w (w : LS) : gr2 [.fz (.tuple ((stp 12).map dV)), .un, .un, .un, .un, .un, .un, .un, .un, .un] w = .ok (.nx (grRho .un .un .un .un .un .un .un)) w := by kernel_rfl
theorem gr3_w (w : LS) : gr3 (grRho .un .un .un .un .un .un .un) w = .ok (.nx (grRho .un (.ow (worlds.take 2)) .un .un .un .un .un)) w := by kernel_rfl
theorem gr4_w (w : LS) : gr4 (grRho .un (.ow (worlds.take 2)) .un .un .un .un .un) w = .ok (.nx (grRho .un (.ow (worlds.take 3)) .un .un .un .un .un)) w := by kernel_rfl
theorem gr5_w (w : LS) : gr5 (grRho .un (.ow (worlds.take 3)) .un .un .un .un .un) w = .ok (.nx (grRho .un (.ow (worlds.take 4)) .un .un .un .un .un)) w := by kernel_rfl
theorem gr6_w (w : LS) : gr6 (grRho .un (.ow (worlds.take 4)) .un .un .un .un .un) w = .ok (.nx (grRho .un (.ow worlds) .un .un .un .un .un)) w := by kernel_rfl
theorem msM_w (s4 s5 s6 s7 s8 s9 : Sl) (w : LS) : msM (grRho .un s4 s5 s6 s7 s8 s9) w = .ok (dS 2 msS) w := by kernel_rfl
theorem t_gr_body {x : Str} {W : List Lin} {b : Int} (w : LS) (hr : F_l_refusal [.fz (.str x), .fz (dS 2 W), .fz (dS 2 msS)] w = .ok (.list [.str "TooGreat", .int b]) w) (hl : F_l_like [.fz (.list [.str "TooGreat", .int b]), .fz (.list [.str "TooGreat", .int b])] w = .ok (.bool true) w) (s4 s8 s9 : Sl) :
    grBody (grRho .un s4 (.fz (.str x)) (.fz (.tuple (W.map dL))) (.fz (.int b)) s8 s9) w = .ok (.nx (grRho .un s4 (.fz (.str x)) (.fz (.tuple (W.map dL))) (.fz (.int b)) (.fz (.list [.str "TooGreat", .int b])) s9)) w := by
  have r := refM_w (a := varM 5) (b := tup2 (kI 2) (varM 6)) (c := msM) (ρ := grRho .un s4 (.fz (.str x)) (.fz (.tuple (W.map dL))) (.fz (.int b)) s8 s9) (w := w) (x := .str x) (y := dS 2 W) (z := dS 2 msS) rfl (tup2_w rfl rfl) (msM_w _ _ _ _ _ _ w)
  have e1 : setM 8 (defM (lenM 3 F_l_refusal) (aCons (varM 5) (aCons (tup2 (kI 2) (varM 6)) (aCons msM aNil)))) (grRho .un s4 (.fz (.str x)) (.fz (.tuple (W.map dL))) (.fz (.int b)) s8 s9) w = .ok (.nx (grRho .un s4 (.fz (.str x)) (.fz (.tuple (W.map dL))) (.fz (.int b)) (.fz (.list [.str "TooGreat", .int b])) s9)) w := by
    rw [set_w, r, hr]
    rfl
  have e2 := chk1 (ρ := grRho .un s4 (.fz (.str x)) (.fz (.tuple (W.map dL))) (.fz (.int b)) (.fz (.list [.str "TooGreat", .int b])) s9) (fa := varM 8) (fb := lst2 (kS "TooGreat") (varM 7)) (w := w) (d := .list [.str "TooGreat", .int b]) rfl (lst2_w rfl rfl) hl
  unfold grBody
  rw [seq_r, e1, seqR_nx, e2]
abbrev tg3 : PyData → Ev → Option Ev := tgTup 3 (tgCons (tgN 5) (tgCons (tgN 6) (tgCons (tgN 7) tgNil)))
theorem gr_step {x : Str} {W : List Lin} {b : Int} (w : LS) (hr : F_l_refusal [.fz (.str x), .fz (dS 2 W), .fz (dS 2 msS)] w = .ok (.list [.str "TooGreat", .int b]) w) (hl : F_l_like [.fz (.list [.str "TooGreat", .int b]), .fz (.list [.str "TooGreat", .int b])] w = .ok (.bool true) w) (ds : List PyData) (s4 s5 s6 s7 s8 s9 : Sl) :
    ∃ s5' s6' s7' s8', forL tg3 grBody (woD x W b :: ds) (grRho .un s4 s5 s6 s7 s8 s9) w = forL tg3 grBody ds (grRho .un s4 s5' s6' s7' s8' s9) w := by
  have fc := forL_cons tg3 grBody (woD x W b) ds (grRho .un s4 s5 s6 s7 s8 s9) (grRho .un s4 (.fz (.str x)) (.fz (.tuple (W.map dL))) (.fz (.int b)) s8 s9) w rfl
  rw [t_gr_body w hr hl] at fc
  exact ⟨_, _, _, _, fc⟩
theorem t_gr_loop (w : LS) (s4 : Sl) : ∃ s5' s6' s7' s8', forL tg3 grBody worlds (grRho .un s4 .un .un .un .un .un) w = .ok (.nx (grRho .un s4 s5' s6' s7' s8' .un)) w := by
  obtain ⟨a1, a2, a3, a4, e1⟩ := gr_step w (w1_r (dS 2 msS) w) (like_tg12 w) [woD "star" W2 12, woD "star" W3 1000000000, woD "sum" W4 12, woD "sum" W5 1000000000] s4 .un .un .un .un .un
  obtain ⟨b1, b2, b3, b4, e2⟩ := gr_step w (w2_r (dS 2 msS) w) (like_tg12 w) [woD "star" W3 1000000000, woD "sum" W4 12, woD "sum" W5 1000000000] s4 a1 a2 a3 a4 .un
  obtain ⟨c1, c2, c3, c4, e3⟩ := gr_step w (w3_r (dS 2 msS) w) (like_tgG w) [woD "sum" W4 12, woD "sum" W5 1000000000] s4 b1 b2 b3 b4 .un
  obtain ⟨d1, d2, d3, d4, e4⟩ := gr_step w (w4_r w) (like_tg12 w) [woD "sum" W5 1000000000] s4 c1 c2 c3 c4 .un
  obtain ⟨f1, f2, f3, f4, e5⟩ := gr_step w (w5_r w) (like_tgG w) [] s4 d1 d2 d3 d4 .un
  exact ⟨f1, f2, f3, f4, e1.trans (e2.trans (e3.trans (e4.trans e5)))⟩
abbrev lets : List PyData := [.tuple (V1.map dL), .tuple (V2.map dL), .tuple (V3.map dL), .tuple (V4.map dL)]
theorem gr7_w (s4 s5 s6 s7 s8 : Sl) (w : LS) : gr7 (grRho .un s4 s5 s6 s7 s8 .un) w = .ok (.nx (grRho .un s4 s5 s6 s7 s8 (.ow (lets.take 3)))) w := by kernel_rfl
theorem gr8_w (s4 s5 s6 s7 s8 : Sl) (w : LS) : gr8 (grRho .un s4 s5 s6 s7 s8 (.ow (lets.take 3))) w = .ok (.nx (grRho .un s4 s5 s6 s7 s8 (.ow lets))) w := by kernel_rfl
theorem ls_step {V : List Lin} (w : LS) (hr : F_l_refusal [.fz (.str "star"), .fz (dS 2 V), .fz .none] w = .ok .none w) (ds : List PyData) (s4 s5 s6 s7 s8 s9 : Sl) :
    forL (tgN 6) lsBody (.tuple (V.map dL) :: ds) (grRho .un s4 s5 s6 s7 s8 s9) w = forL (tgN 6) lsBody ds (grRho .un s4 s5 (.fz (.tuple (V.map dL))) s7 s8 s9) w := by
  have fc := forL_cons (tgN 6) lsBody (.tuple (V.map dL)) ds (grRho .un s4 s5 s6 s7 s8 s9) (grRho .un s4 s5 (.fz (.tuple (V.map dL))) s7 s8 s9) w rfl
  have e := chkN' (ρ := grRho .un s4 s5 (.fz (.tuple (V.map dL))) s7 s8 s9) (w := w) (args3 (a := kS "star") (b := tup2 (kI 2) (varM 6)) (c := kN) (x := .str "star") (y := dS 2 V) (z := .none) rfl (tup2_w rfl rfl) rfl) hr
  rw [fc]
  show (match lsBody (grRho .un s4 s5 (.fz (.tuple (V.map dL))) s7 s8 s9) w with
    | .ok (.nx ρ') w' => forL (tgN 6) lsBody ds ρ' w'
    | .ok (.rt d) w' => .ok (.rt d) w'
    | .er c d w' => .er c d w'
    | .no => .no) = _
  unfold lsBody
  rw [e]
theorem t_ls_loop (w : LS) (s4 s5 s6 s7 s8 s9 : Sl) : ∃ s6', forL (tgN 6) lsBody lets (grRho .un s4 s5 s6 s7 s8 s9) w = .ok (.nx (grRho .un s4 s5 s6' s7 s8 s9)) w := by
  refine ⟨.fz (.tuple (V4.map dL)), ?_⟩
  rw [show lets = .tuple (V1.map dL) :: .tuple (V2.map dL) :: .tuple (V3.map dL) :: .tuple (V4.map dL) :: [] from rfl, ls_step w (v1_r w), ls_step w (v2_r w), ls_step w (v3_r w), ls_step w (v4_r w)]
  rfl
theorem grE_w (s4 s5 s6 s7 s8 s9 : Sl) (w : LS) : grE (grRho .un s4 s5 s6 s7 s8 s9) w = .ok (.bool true) w := by
  have a2 : tup2 (kI 2) (tup1 (tup2 (tup2 (opM subD (varM 2) (kI 1)) (kI 0)) (sliceM (varM 0) none (some 6)))) (grRho .un s4 s5 s6 s7 s8 s9) w = .ok (dS 2 V5) w := by kernel_rfl
  exact (chkN (args3 (a := kS "sum") (kS_w "sum" _ _) a2 (msM_w s4 s5 s6 s7 s8 s9 w)) (v5_r w)).2
theorem t_great (w : LS) : F_l_great_right [] w = .ok (.bool true) w := by
  have st : F_l_great_right [] w = finR (m_l_great_right gr0 w) := body_r _ _ _ _
  have z4 : frz 4 (grRho .un (.ow worlds) .un .un .un .un .un) = grRho .un (.fz (.list worlds)) .un .un .un .un .un := rfl
  obtain ⟨s5, s6, s7, s8, e7⟩ := t_gr_loop w (.fz (.list worlds))
  have f7 : forM tg3 (itM listM (varM 4)) grBody (grRho .un (.fz (.list worlds)) .un .un .un .un .un) w = .ok (.nx (grRho .un (.fz (.list worlds)) s5 s6 s7 s8 .un)) w := by
    have ei : itM listM (varM 4) (grRho .un (.fz (.list worlds)) .un .un .un .un .un) w = .ok worlds w := rfl
    rw [for_w, ei]
    exact e7
  have z9 : frz 9 (grRho .un (.fz (.list worlds)) s5 s6 s7 s8 (.ow lets)) = grRho .un (.fz (.list worlds)) s5 s6 s7 s8 (.fz (.list lets)) := rfl
  obtain ⟨s6', e8⟩ := t_ls_loop w (.fz (.list worlds)) s5 s6 s7 s8 (.fz (.list lets))
  have f8 : forM (tgN 6) (itM listM (varM 9)) lsBody (grRho .un (.fz (.list worlds)) s5 s6 s7 s8 (.fz (.list lets))) w = .ok (.nx (grRho .un (.fz (.list worlds)) s5 s6' s7 s8 (.fz (.list lets)))) w := by
    have ei : itM listM (varM 9) (grRho .un (.fz (.list worlds)) s5 s6 s7 s8 (.fz (.list lets))) w = .ok lets w := rfl
    rw [for_w, ei]
    exact e8
  rw [st, gr_form, seq_r, gr1_w, seqR_nx, seq_r, gr2_w, seqR_nx, seq_r, gr3_w, seqR_nx, seq_r, gr4_w, seqR_nx, seq_r, gr5_w, seqR_nx, seq_r, gr6_w, seqR_nx]
  show finR ((seqM (forM tg3 (itM listM (varM 4)) grBody) (seqM gr7 (seqM gr8 (fun ρ => (seqM (forM (tgN 6) (itM listM (varM 9)) lsBody) (retM grE)) (frz 9 ρ))))) (frz 4 (grRho .un (.ow worlds) .un .un .un .un .un)) w) = _
  rw [z4, seq_r, f7, seqR_nx, seq_r, gr7_w, seqR_nx, seq_r, gr8_w, seqR_nx]
  show finR ((seqM (forM (tgN 6) (itM listM (varM 9)) lsBody) (retM grE)) (frz 9 (grRho .un (.fz (.list worlds)) s5 s6 s7 s8 (.ow lets))) w) = _
  rw [z9, seq_r, f8, seqR_nx, ret_r, fin_ret, grE_w]
end Wh

namespace Wh
open PySem PySem.Spec PyProof.Rows L2

/-! ### the law -/
abbrev la (s2 s3 s4 s5 s6 s7 s8 s9 s10 s11 s12 s13 s14 s15 s16 s17 s18 s19 s20 : Sl) : Ev := [.un, .st, s2, s3, s4, s5, s6, s7, s8, s9, s10, s11, s12, s13, s14, s15, s16, s17, s18, s19, s20]
abbrev draw1 (f : Ev → M PyData) : Ev → M PyData := defM (lenM 2 F_l_draw) (aSt 1 (aCons f aNil))
theorem call_st {F : List Sl → M PyData} {ρ : Ev} {w : LS} {f : Ev → M PyData} {x : PyData} (h0 : ρ[1]? = some .st) (e : f ρ w = .ok x w) : defM (lenM 2 F) (aSt 1 (aCons f aNil)) ρ w = F [.st, .fz x] w := by
  have ea : aCons f aNil ρ w = .ok [.fz x] w := by simp only [acons_w, anil_w, e]
  rw [def_w, ast_w 1 _ _ w w _ h0 ea]
  simp only
  rw [len_w]
  exact if_pos (show [Sl.st, Sl.fz x].length = 2 from rfl)
theorem call_one {F : List Sl → M PyData} {ρ : Ev} {w : LS} {f : Ev → M PyData} {x : PyData} (e : f ρ w = .ok x w) : defM (lenM 1 F) (aCons f aNil) ρ w = F [.fz x] w := by
  rw [def_w]
  simp only [acons_w, anil_w, e]
  rw [len_w]
  exact if_pos (show [Sl.fz x].length = 1 from rfl)
theorem call_two {F : List Sl → M PyData} {ρ : Ev} {w : LS} {f g : Ev → M PyData} {x y : PyData} (e : f ρ w = .ok x w) (e2 : g ρ w = .ok y w) : defM (lenM 2 F) (aCons f (aCons g aNil)) ρ w = F [.fz x, .fz y] w := by
  rw [def_w]
  simp only [acons_w, anil_w, e, e2]
  rw [len_w]
  exact if_pos (show [Sl.fz x, Sl.fz y].length = 2 from rfl)
theorem call_three {F : List Sl → M PyData} {ρ : Ev} {w : LS} {f g h : Ev → M PyData} {x y z : PyData} (e : f ρ w = .ok x w) (e2 : g ρ w = .ok y w) (e3 : h ρ w = .ok z w) : defM (lenM 3 F) (aCons f (aCons g (aCons h aNil))) ρ w = F [.fz x, .fz y, .fz z] w := by
  rw [def_w, args3 e e2 e3]
  simp only
  rw [len_w]
  exact if_pos (show [Sl.fz x, Sl.fz y, Sl.fz z].length = 3 from rfl)
abbrev lines1 : Ev → M PyData := defM (lenM 2 F_l_lines) (aSt 1 (aCons (varM 2) aNil))
abbrev ixM (i : Nat) (k : Int) : Ev → M PyData := opM ixD (varM i) (kI k)
abbrev bothIn : Ev → M PyData := tup2 (defM (lenM 2 F_l_plus) (aCons (varM 7) (aCons (ixM 9 0) aNil))) (opM addD (varM 8) (ixM 9 1))
abbrev bothM : Ev → M Fl := setM 5 (opM addD (varM 5) (lcM [9] (tgN 9) (itM tupleM (ixM 4 1)) yesM bothIn))
abbrev cleanM (a : Ev → M PyData) : Ev → M PyData := defM (lenM 1 F_l_clean) (aCons a aNil)
abbrev suM (a b : Ev → M PyData) : Ev → M PyData := defM (lenM 2 F_sum_of) (aCons a (aCons b aNil))
abbrev saM (a : Ev → M PyData) : Ev → M PyData := defM (lenM 1 F_star) (aCons a aNil)
abbrev hasM (a b : Ev → M PyData) : Ev → M PyData := defM (lenM 2 F_l_has) (aCons a (aCons b aNil))
abbrev unl (g : Ev → M Bool) : Ev → M Fl := iffM g (retM (kT false)) skipM
abbrev gridM (j : Nat) : Ev → M PyData := lcM [12] (tgN 12) (itM listM (varM 10)) (testM (hasM (ixM j 1) (varM 12))) (varM 12)
abbrev rowBody : Ev → M Fl := seqM (unl (testM (opM neD (hasM (varM 14) (varM 12)) (orV (inSlM false (varM 12) 11) (inSlM false (varM 12) 13)))))
  (unl (testM (opM neD (hasM (varM 15) (varM 12)) (inSlM false (varM 12) 17))))
abbrev stBody : Ev → M Fl := unl (testM (opM neD (hasM (varM 16) (varM 12)) (inSlM false (varM 12) 18)))
abbrev k1 : Ev → M Fl := setM 2 (opM addD (kI 1) (draw1 (kI 2)))
abbrev k2 : Ev → M Fl := asgM (tgTup 2 (tgCons (tgN 3) (tgCons (tgN 4) tgNil))) (tup2 lines1 lines1)
abbrev k3 : Ev → M Fl := unl (notM (testM (defM (lenM 2 F_l_refusals_right) (aSt 1 (aCons (varM 3) aNil)))))
abbrev k4 : Ev → M Fl := parM 5 6 (lCons (lstM lNil) (lCons (defM (lenM 1 F_l_star_lines) (aCons (varM 3) aNil)) lNil))
abbrev k5 : Ev → M Fl := forM (tgTup 2 (tgCons (tgN 7) (tgCons (tgN 8) tgNil))) (itM tupleM (ixM 3 1)) bothM
abbrev k6 : Ev → M Fl := unl (notM (testM (likeM (unM (varM 3) (varM 4)) (tup2 (varM 2) (cleanM (opM addD (ixM 3 1) (ixM 4 1)))))))
abbrev k7 : Ev → M Fl := unl (notM (testM (likeM (suM (varM 3) (varM 4)) (tup2 (varM 2) (cleanM (varM 5))))))
abbrev k8 : Ev → M Fl := unl (notM (testM (likeM (saM (varM 3)) (tup2 (varM 2) (varM 6)))))
abbrev k9 : Ev → M Fl := setM 10 (defM (lenM 2 F_l_grid) (aCons (varM 2) (aCons (kI 7) aNil)))
abbrev k12 : Ev → M Fl := par3M 14 15 16 (lCons (opM ixD (unM (varM 3) (varM 4)) (kI 1)) (lCons (opM ixD (suM (varM 3) (varM 4)) (kI 1)) (lCons (opM ixD (saM (varM 3)) (kI 1)) lNil)))
abbrev k13 : Ev → M Fl := parM 17 18 (lCons (defM (lenM 3 F_l_sums) (aCons (varM 11) (aCons (varM 13) (aCons (varM 10) aNil)))) (lCons (defM (lenM 2 F_l_star_rows) (aCons (varM 11) (aCons (varM 10) aNil))) lNil))
abbrev k15 : Ev → M Fl := setM 19 (lcM [20] (tgN 20) (rng1M (lCons (kI 8) lNil)) yesM (draw1 (callM lenD (lCons (varM 10) lNil))))
abbrev pickL : Ev → M PyData := lcM [20] (tgN 20) (itM listM (varM 19)) yesM (opM ixD (varM 10) (varM 20))
theorem law_form : m_law_rest = seqM k1 (seqM k2 (seqM k3 (seqM k4 (seqM k5 (seqM k6 (seqM k7 (seqM k8 (seqM k9 (seqM (setM 11 (gridM 3)) (seqM (setM 13 (gridM 4)) (seqM k12 (seqM k13
  (seqM (forM (tgN 12) (itM listM (varM 10)) rowBody) (seqM k15 (seqM (forM (tgN 12) (itM listM pickL) stBody) (retM (kT true))))))))))))))))) := rfl
theorem unl_f {g : Ev → M Bool} {ρ : Ev} {w : LS} (h : g ρ w = .ok false w) : unl g ρ w = .ok (.nx ρ) w := by
  unfold unl
  rw [iff_f h, skip_w]
theorem unl_n {f : Ev → M PyData} {ρ : Ev} {w w' : LS} (h : f ρ w = .ok (.bool true) w') : unl (notM (testM f)) ρ w = .ok (.nx ρ) w' := by
  have e : notM (testM f) ρ w = .ok false w' := by
    rw [not_w, test_of h]
    rfl
  unfold unl
  rw [iff_f e, skip_w]
theorem law_t (w : LS) : m_law_t lawE0 w = .ok false w := by
  have a : notM (testM (defM (lenM 0 F_l_unions_right) aNil)) lawE0 w = .ok false w := by
    have e : defM (lenM 0 F_l_unions_right) aNil lawE0 w = .ok (.bool true) w := by
      rw [def_w, anil_w]
      simp only
      rw [len_w]
      exact (if_pos (show ([] : List Sl).length = 0 from rfl)).trans (t_unions w)
    rw [not_w, test_of e]
    rfl
  have b : notM (testM (defM (lenM 0 F_l_great_right) aNil)) lawE0 w = .ok false w := by
    have e : defM (lenM 0 F_l_great_right) aNil lawE0 w = .ok (.bool true) w := by
      rw [def_w, anil_w]
      simp only
      rw [len_w]
      exact (if_pos (show ([] : List Sl).length = 0 from rfl)).trans (t_great w)
    rw [not_w, test_of e]
    rfl
  unfold m_law_t
  rw [or_f a, b]
/-! the steps -/
theorem e_k1 {m : Nat} {w : LS} (h : Wf m w) (hm : m ≤ 900) : ∃ (n : Nat) (w' : LS), k1 (lawE0.set 1 .st) w = .ok (.nx (la (.fz (.int n)) .un .un .un .un .un .un .un .un .un .un .un .un .un .un .un .un .un .un)) w' ∧ (n = 1 ∨ n = 2) ∧ Wf (m + 1) w' := by
  obtain ⟨d, w', e, d0, d1, f⟩ := t_draw h (by omega) (L := 2) ⟨by decide, by decide⟩
  have ed : draw1 (kI 2) (lawE0.set 1 .st) w = .ok (.int d) w' := (call_st (F := F_l_draw) (f := kI 2) (ρ := lawE0.set 1 .st) rfl (kI_w _ _ _)).trans e
  have hd : d = 0 ∨ d = 1 := by omega
  have es : ∀ n : Nat, (1 : Int) + d = n → k1 (lawE0.set 1 .st) w = .ok (.nx (la (.fz (.int n)) .un .un .un .un .un .un .un .un .un .un .un .un .un .un .un .un .un .un)) w' := fun n hn => by
    unfold k1
    rw [set_w, op_w, kI_w]
    simp only [ed, add_ii, hn]
    rfl
  rcases hd with rfl | rfl
  · exact ⟨1, w', es 1 rfl, .inl rfl, f⟩
  · exact ⟨2, w', es 2 rfl, .inr rfl, f⟩
theorem e_k2 {n m : Nat} {w : LS} (h12 : n = 1 ∨ n = 2) (h : Wf m w) (hm : m ≤ 600) : ∃ (ls ms : List Lin) (w' : LS), k2 (la (.fz (.int n)) .un .un .un .un .un .un .un .un .un .un .un .un .un .un .un .un .un .un) w = .ok (.nx (la (.fz (.int n)) (.fz (dS n ls)) (.fz (dS n ms)) .un .un .un .un .un .un .un .un .un .un .un .un .un .un .un .un)) w' ∧ Two n ls ∧ Two n ms ∧ Wf (m + 80) w' := by
  obtain ⟨ls, w1, e1, a1, a2, a3, f1⟩ := t_lines (n := n) (by omega) (by omega) h (by omega)
  obtain ⟨ms, w2, e2, b1, b2, b3, f2⟩ := t_lines (n := n) (by omega) (by omega) f1 (by omega)
  refine ⟨ls, ms, w2, ?_, ⟨by omega, by omega, a1, a2, a3⟩, ⟨by omega, by omega, b1, b2, b3⟩, f2⟩
  have c1 : lines1 (la (.fz (.int n)) .un .un .un .un .un .un .un .un .un .un .un .un .un .un .un .un .un .un) w = .ok (dS n ls) w1 := (call_st (F := F_l_lines) (f := varM 2) rfl rfl).trans e1
  have c2 : lines1 (la (.fz (.int n)) .un .un .un .un .un .un .un .un .un .un .un .un .un .un .un .un .un .un) w1 = .ok (dS n ms) w2 := (call_st (F := F_l_lines) (f := varM 2) rfl rfl).trans e2
  have c3 : tup2 lines1 lines1 (la (.fz (.int n)) .un .un .un .un .un .un .un .un .un .un .un .un .un .un .un .un .un .un) w = .ok (.tuple [dS n ls, dS n ms]) w2 := by
    unfold tup2
    rw [tup_w, lcons_w, c1]
    simp only [lcons_w, c2, lnil_w, List.length_cons, List.length_nil, if_pos two_size, Nat.zero_add, Nat.reduceAdd]
  unfold k2
  rw [asg_w, c3]
  rfl
theorem e_k3 {n m : Nat} {w : LS} (h12 : n = 1 ∨ n = 2) (h : Wf m w) (hm : m ≤ 900) {ls : List Lin} (hl : OkS n ls) {ρ : Ev} (r1 : ρ[1]? = some .st) (r3 : ρ[3]? = some (.fz (dS n ls))) : ∃ w' : LS, k3 ρ w = .ok (.nx ρ) w' ∧ Wf (m + 1) w' := by
  obtain ⟨w', e, f⟩ := t_refusals h12 hl h hm
  exact ⟨w', unl_n ((call_st (F := F_l_refusals_right) (f := varM 3) r1 (by rw [var_w, r3])).trans e), f⟩
theorem add_LL (a b : List PyData) (w : LS) (h : a.length + b.length ≤ sizeLine) : addD (.list a) (.list b) w = .ok (.list (a ++ b)) w := by
  show (if a.length + b.length ≤ sizeLine then pure (.list (a ++ b)) else M.no : M PyData) w = _
  rw [if_pos h]
  rfl
theorem ixM_S {n : Nat} {ls : List Lin} {ρ : Ev} {w : LS} {i : Nat} (h : ρ[i]? = some (.fz (dS n ls))) : ixM i 1 ρ w = .ok (.tuple (ls.map dL)) w := by
  unfold ixM
  rw [op_w, var_w, h]
  simp only [kI_w, ixS1]
theorem e_both {n : Nat} {ms : List Lin} (h4 : n ≤ 4) (hms : Two n ms) (a : Lin) (ha : Dr n a) (acc : List Lin) (hz : acc.length ≤ 900) (s2 s3 s6 s9 : Sl) (w : LS) :
    bothM (la s2 s3 (.fz (dS n ms)) (.fz (.list (acc.map dL))) s6 (.fz (dV a.1)) (.fz (.tuple (a.2.map dV))) .un .un .un .un .un .un .un .un .un .un .un .un) w =
      .ok (.nx (la s2 s3 (.fz (dS n ms)) (.fz (.list ((acc ++ ms.map (sumX a)).map dL))) s6 (.fz (dV a.1)) (.fz (.tuple (a.2.map dV))) .un .un .un .un .un .un .un .un .un .un .un .un)) w := by
  have hal := ha.b.1
  have hak := ha.k
  have hmz := hms.z
  have lc := lc_w (g := tgN 9) (vs := [9]) (ft := yesM) (fe := bothIn) (ρ := la s2 s3 (.fz (dS n ms)) (.fz (.list (acc.map dL))) s6 (.fz (dV a.1)) (.fz (.tuple (a.2.map dV))) .un .un .un .un .un .un .un .un .un .un .un .un) (w := w) dL (fun _ => true) (fun m => dL (sumX a m)) ms fun l hl => by
    refine ⟨la s2 s3 (.fz (dS n ms)) (.fz (.list (acc.map dL))) s6 (.fz (dV a.1)) (.fz (.tuple (a.2.map dV))) (.fz (dL l)) .un .un .un .un .un .un .un .un .un .un .un, rfl, rfl, fun _ => ?_⟩
    have hlk := (hms.d l hl).k
    have v9 : ∀ k, ixM 9 k (la s2 s3 (.fz (dS n ms)) (.fz (.list (acc.map dL))) s6 (.fz (dV a.1)) (.fz (.tuple (a.2.map dV))) (.fz (dL l)) .un .un .un .un .un .un .un .un .un .un .un) w = ixD (dL l) (.int k) w := fun k => rfl
    have p1 := (call_two (F := F_l_plus) (f := varM 7) (g := ixM 9 0) (ρ := la s2 s3 (.fz (dS n ms)) (.fz (.list (acc.map dL))) s6 (.fz (dV a.1)) (.fz (.tuple (a.2.map dV))) (.fz (dL l)) .un .un .un .un .un .un .un .un .un .un .un) (w := w) (x := dV a.1) (y := dV l.1) rfl ((v9 0).trans (ixL0 l w))).trans (t_plus a.1 l.1 w (size_of_800 (by omega)))
    have p2 : opM addD (varM 8) (ixM 9 1) (la s2 s3 (.fz (dS n ms)) (.fz (.list (acc.map dL))) s6 (.fz (dV a.1)) (.fz (.tuple (a.2.map dV))) (.fz (dL l)) .un .un .un .un .un .un .un .un .un .un .un) w = .ok (.tuple ((a.2 ++ l.2).map dV)) w := by
      have v8 : varM 8 (la s2 s3 (.fz (dS n ms)) (.fz (.list (acc.map dL))) s6 (.fz (dV a.1)) (.fz (.tuple (a.2.map dV))) (.fz (dL l)) .un .un .un .un .un .un .un .un .un .un .un) w = .ok (.tuple (a.2.map dV)) w := rfl
      rw [op_w, v8]
      simp only [v9, ixL1]
      rw [add_TT _ _ _ (size_of_800 (by rw [List.length_map, List.length_map]; omega)), List.map_append]
    exact tup2_w p1 p2
  rw [List.filter_eq_self.mpr (fun _ _ => rfl)] at lc
  have it : itM tupleM (ixM 4 1) (la s2 s3 (.fz (dS n ms)) (.fz (.list (acc.map dL))) s6 (.fz (dV a.1)) (.fz (.tuple (a.2.map dV))) .un .un .un .un .un .un .un .un .un .un .un .un) w = .ok (ms.map dL) w := rfl
  have hl : lcM [9] (tgN 9) (itM tupleM (ixM 4 1)) yesM bothIn (la s2 s3 (.fz (dS n ms)) (.fz (.list (acc.map dL))) s6 (.fz (dV a.1)) (.fz (.tuple (a.2.map dV))) .un .un .un .un .un .un .un .un .un .un .un .un) w = .ok (.list ((ms.map (sumX a)).map dL)) w := by
    unfold lcM
    rw [bk it, if_pos (size_of_800 (by rw [List.length_map]; omega)), bk lc, List.map_map]
    rfl
  have v5 : varM 5 (la s2 s3 (.fz (dS n ms)) (.fz (.list (acc.map dL))) s6 (.fz (dV a.1)) (.fz (.tuple (a.2.map dV))) .un .un .un .un .un .un .un .un .un .un .un .un) w = .ok (.list (acc.map dL)) w := rfl
  unfold bothM
  rw [set_w, op_w, v5]
  simp only [hl]
  rw [add_LL _ _ _ (size_of_800 (by rw [List.length_map, List.length_map, List.length_map]; omega)), ← List.map_append]
  rfl
theorem e_loop5 {n : Nat} {ms : List Lin} (h4 : n ≤ 4) (hms : Two n ms) (s2 s3 s6 : Sl) (w : LS) : ∀ (ls acc : List Lin) (s7 s8 : Sl), (∀ l ∈ ls, Dr n l) → acc.length + 3 * ls.length ≤ 800 →
    ∃ s7' s8', forL (tgTup 2 (tgCons (tgN 7) (tgCons (tgN 8) tgNil))) bothM (ls.map dL) (la s2 s3 (.fz (dS n ms)) (.fz (.list (acc.map dL))) s6 s7 s8 .un .un .un .un .un .un .un .un .un .un .un .un) w =
      .ok (.nx (la s2 s3 (.fz (dS n ms)) (.fz (.list ((acc ++ sums ls ms).map dL))) s6 s7' s8' .un .un .un .un .un .un .un .un .un .un .un .un)) w
  | [], acc, s7, s8, _, _ => ⟨s7, s8, by
    have e : acc ++ sums [] ms = acc := by simp [sums]
    rw [e]
    rfl⟩
  | a :: ls, acc, s7, s8, h, hz => by
    rw [List.length_cons] at hz
    have hmz := hms.z
    have fc := forL_cons (tgTup 2 (tgCons (tgN 7) (tgCons (tgN 8) tgNil))) bothM (dL a) (ls.map dL) (la s2 s3 (.fz (dS n ms)) (.fz (.list (acc.map dL))) s6 s7 s8 .un .un .un .un .un .un .un .un .un .un .un .un) (la s2 s3 (.fz (dS n ms)) (.fz (.list (acc.map dL))) s6 (.fz (dV a.1)) (.fz (.tuple (a.2.map dV))) .un .un .un .un .un .un .un .un .un .un .un .un) w rfl
    rw [e_both h4 hms a (h a (by simp)) acc (by omega) s2 s3 s6 .un w] at fc
    obtain ⟨s7', s8', e⟩ := e_loop5 h4 hms s2 s3 s6 w ls (acc ++ ms.map (sumX a)) (.fz (dV a.1)) (.fz (.tuple (a.2.map dV))) (fun l hl => h l (List.mem_cons_of_mem _ hl)) (by rw [List.length_append, List.length_map]; omega)
    refine ⟨s7', s8', ?_⟩
    rw [List.map_cons, fc]
    show forL (tgTup 2 (tgCons (tgN 7) (tgCons (tgN 8) tgNil))) bothM (ls.map dL) _ w = _
    rw [e]
    have es : acc ++ ms.map (sumX a) ++ sums ls ms = acc ++ sums (a :: ls) ms := by
      unfold sums
      rw [List.flatMap_cons, List.append_assoc]
    rw [es]
end Wh

namespace Wh
open PySem PySem.Spec PyProof.Rows L2

/-- the env from the sums on -/
abbrev lb (n : Nat) (ls ms : List Lin) (s5 s6 s7 s8 s10 s11 s12 s13 s14 s15 s16 s17 s18 s19 : Sl) : Ev := la (.fz (.int n)) (.fz (dS n ls)) (.fz (dS n ms)) s5 s6 s7 s8 .un s10 s11 s12 s13 s14 s15 s16 s17 s18 s19 .un
abbrev stS (n : Nat) (ls : List Lin) : Sl := .fz (.tuple ((clean (starX n ls)).map dL))
abbrev boS (ls ms : List Lin) : Sl := .fz (.list ((sums ls ms).map dL))
theorem e_k4 {n : Nat} {ls ms : List Lin} (h : Two n ls) (w : LS) : k4 (lb n ls ms .un .un .un .un .un .un .un .un .un .un .un .un .un .un) w = .ok (.nx (lb n ls ms (.fz (.list (([] : List Lin).map dL))) (stS n ls) .un .un .un .un .un .un .un .un .un .un .un .un)) w := by
  have a := lnil_d (lb n ls ms .un .un .un .un .un .un .un .un .un .un .un .un .un .un) w
  have b := (call_one (F := F_l_star_lines) (f := varM 3) (ρ := lb n ls ms .un .un .un .un .un .un .un .un .un .un .un .un .un .un) (w := w) rfl).trans (t_lstar w h.ok h.z)
  have c : lCons (lstM lNil) (lCons (defM (lenM 1 F_l_star_lines) (aCons (varM 3) aNil)) lNil) (lb n ls ms .un .un .un .un .un .un .un .un .un .un .un .un .un .un) w = .ok [.list [], .tuple ((clean (starX n ls)).map dL)] w := by
    simp only [lcons_w, lnil_w, a, b]
  unfold k4
  rw [par_w 5 6 _ _ w w _ _ c]
  rfl
theorem e_k5 {n : Nat} {ls ms : List Lin} (h : Two n ls) (k : Two n ms) (w : LS) : ∃ s7 s8 : Sl, k5 (lb n ls ms (.fz (.list (([] : List Lin).map dL))) (stS n ls) .un .un .un .un .un .un .un .un .un .un .un .un) w = .ok (.nx (lb n ls ms (boS ls ms) (stS n ls) s7 s8 .un .un .un .un .un .un .un .un .un .un)) w := by
  obtain ⟨s7, s8, e⟩ := e_loop5 h.n4 k (.fz (.int n)) (.fz (dS n ls)) (stS n ls) w ls [] .un .un h.d (by have := h.z; rw [List.length_nil]; omega)
  refine ⟨s7, s8, ?_⟩
  have it : itM tupleM (ixM 3 1) (lb n ls ms (.fz (.list (([] : List Lin).map dL))) (stS n ls) .un .un .un .un .un .un .un .un .un .un .un .un) w = .ok (ls.map dL) w := rfl
  unfold k5
  rw [for_w, it]
  exact e
theorem lo_cl {n : Nat} (h1 : 1 ≤ n) {B : Int} {R : Nat} (hR : R ≤ 1000) {xs : List Lin} (h : ∀ x ∈ xs, Lo n B R x) : ∀ x ∈ xs, (∀ v ∈ x.2, v ≠ []) ∧ x.2.length ≤ 1000 := fun x hx => ⟨fun v hv => ne_of_len ((h x hx).r v hv).1 h1, Nat.le_trans (h x hx).k hR⟩
theorem two_app {n : Nat} {ls ms : List Lin} (h : Two n ls) (k : Two n ms) : ∀ x ∈ ls ++ ms, Lo n 2 2 x := fun x hx => (List.mem_append.mp hx).elim (fun q => (h.d x q).lo) (fun q => (k.d x q).lo)
theorem e_k6 {n : Nat} {ls ms : List Lin} (h : Two n ls) (k : Two n ms) (s5 s6 s7 s8 : Sl) (w : LS) : k6 (lb n ls ms s5 s6 s7 s8 .un .un .un .un .un .un .un .un .un .un) w = .ok (.nx (lb n ls ms s5 s6 s7 s8 .un .un .un .un .un .un .un .un .un .un)) w := by
  obtain ⟨u, o⟩ := r_union h k w
  have hz := h.z
  have kz := k.z
  have a := (unM_w (a := varM 3) (b := varM 4) (ρ := lb n ls ms s5 s6 s7 s8 .un .un .un .un .un .un .un .un .un .un) (w := w) (x := dS n ls) (y := dS n ms) rfl rfl).trans u
  have ad : opM addD (ixM 3 1) (ixM 4 1) (lb n ls ms s5 s6 s7 s8 .un .un .un .un .un .un .un .un .un .un) w = .ok (.tuple ((ls ++ ms).map dL)) w := by
    rw [op_w, ixM_S (i := 3) (ls := ls) rfl]
    simp only
    rw [ixM_S (i := 4) (ls := ms) rfl]
    simp only
    rw [add_TT _ _ _ (size_of_800 (by rw [List.length_map, List.length_map]; omega)), List.map_append]
  have c := (call_one (F := F_l_clean) ad).trans (t_clean w (.inr rfl) (lo_cl h.n1 (by decide) (two_app h k)) (by rw [List.length_append]; omega))
  have d := tup2_w (a := varM 2) (x := .int n) rfl c
  exact unl_n ((likeM_w a d).trans (t_like_S o w))
theorem e_k7 {n : Nat} {ls ms : List Lin} (h : Two n ls) (k : Two n ms) (s6 s7 s8 : Sl) (w : LS) : k7 (lb n ls ms (boS ls ms) s6 s7 s8 .un .un .un .un .un .un .un .un .un .un) w = .ok (.nx (lb n ls ms (boS ls ms) s6 s7 s8 .un .un .un .un .un .un .un .un .un .un)) w := by
  obtain ⟨u, o⟩ := r_sum h k w
  obtain ⟨z1, _⟩ := sums_z h k
  have a := (call_two (F := F_sum_of) (f := varM 3) (g := varM 4) (ρ := lb n ls ms (boS ls ms) s6 s7 s8 .un .un .un .un .un .un .un .un .un .un) (w := w) (x := dS n ls) (y := dS n ms) rfl rfl).trans u
  have c := (call_one (F := F_l_clean) (f := varM 5) (ρ := lb n ls ms (boS ls ms) s6 s7 s8 .un .un .un .un .un .un .un .un .un .un) (w := w) (x := .list ((sums ls ms).map dL)) rfl).trans (t_clean w (.inl rfl) (lo_cl h.n1 (by decide) (lo_sums h k)) (by omega))
  have d := tup2_w (a := varM 2) (x := .int n) rfl c
  exact unl_n ((likeM_w a d).trans (t_like_S o w))
theorem e_k8 {n : Nat} {ls ms : List Lin} (h : Two n ls) (s5 s7 s8 : Sl) (w : LS) : k8 (lb n ls ms s5 (stS n ls) s7 s8 .un .un .un .un .un .un .un .un .un .un) w = .ok (.nx (lb n ls ms s5 (stS n ls) s7 s8 .un .un .un .un .un .un .un .un .un .un)) w := by
  obtain ⟨u, o⟩ := r_star h w
  have a := (call_one (F := F_star) (f := varM 3) (ρ := lb n ls ms s5 (stS n ls) s7 s8 .un .un .un .un .un .un .un .un .un .un) (w := w) (x := dS n ls) rfl).trans u
  have d := tup2_w (a := varM 2) (b := varM 6) (ρ := lb n ls ms s5 (stS n ls) s7 s8 .un .un .un .un .un .un .un .un .un .un) (w := w) (x := .int n) (y := .tuple ((clean (starX n ls)).map dL)) rfl rfl
  exact unl_n ((likeM_w a d).trans (t_like_S o w))
abbrev vsS (g : List Vec) : Sl := .fz (.list (g.map dV))
theorem t_grid {n : Nat} (h12 : n = 1 ∨ n = 2) (w : LS) : F_l_grid [.fz (.int n), .fz (.int 7)] w = .ok (.list ((grid n).map dV)) w := by
  rcases h12 with rfl | rfl
  · exact t_grid1 w
  · exact t_grid2 w
theorem e_k9 {n : Nat} (h12 : n = 1 ∨ n = 2) {ls ms : List Lin} (s5 s6 s7 s8 : Sl) (w : LS) : k9 (lb n ls ms s5 s6 s7 s8 .un .un .un .un .un .un .un .un .un .un) w = .ok (.nx (lb n ls ms s5 s6 s7 s8 (vsS (grid n)) .un .un .un .un .un .un .un .un .un)) w := by
  have a := (call_two (F := F_l_grid) (f := varM 2) (g := kI 7) (ρ := lb n ls ms s5 s6 s7 s8 .un .un .un .un .un .un .un .un .un .un) (w := w) (x := .int n) (y := .int 7) rfl rfl).trans (t_grid h12 w)
  unfold k9
  rw [set_w, a]
  rfl
theorem e_grid {n : Nat} (h12 : n = 1 ∨ n = 2) {os : List Lin} (ho : OkS n os) {ρ : Ev} {w : LS} {j : Nat} (r10 : ρ[10]? = some (vsS (grid n))) (H : ∀ v : Vec, ∃ ρ1, tgN 12 (dV v) (wipeE ρ [12]) = some ρ1 ∧ ρ1[j]? = some (.fz (dS n os)) ∧ ρ1[12]? = some (.fz (dV v))) : gridM j ρ w = .ok (.list (((grid n).filter (hasB os)).map dV)) w := by
  have gz := (grid_zer h12).2
  have lc := lc_w (g := tgN 12) (vs := [12]) (ft := testM (hasM (ixM j 1) (varM 12))) (fe := varM 12) (ρ := ρ) (w := w) dV (hasB os) dV (grid n) fun v hv => by
    obtain ⟨ρ1, a, b, c⟩ := H v
    have v12 : varM 12 ρ1 w = .ok (dV v) w := by rw [var_w, c]
    exact ⟨ρ1, a, test_of ((call_two (F := F_l_has) (ixM_S b) v12).trans (r_has ho (((grid_ok h12).mem v).mp hv) w)), fun _ => v12⟩
  have it : itM listM (varM 10) ρ w = .ok ((grid n).map dV) w := by
    rw [it_w, var_w, r10]
    rfl
  unfold gridM lcM
  rw [bk it, if_pos (size_of_800 (by rw [List.length_map]; omega)), bk lc]
  rfl
theorem e_k12 {n : Nat} {ls ms : List Lin} (h : Two n ls) (k : Two n ms) (s5 s6 s7 s8 s10 s11 s12 s13 : Sl) (w : LS) : k12 (lb n ls ms s5 s6 s7 s8 s10 s11 s12 s13 .un .un .un .un .un .un) w = .ok (.nx (lb n ls ms s5 s6 s7 s8 s10 s11 s12 s13 (.fz (.tuple ((clean (ls ++ ms)).map dL))) (.fz (.tuple ((clean (sums ls ms)).map dL))) (stS n ls) .un .un .un)) w := by
  have a := (unM_w (a := varM 3) (b := varM 4) (ρ := lb n ls ms s5 s6 s7 s8 s10 s11 s12 s13 .un .un .un .un .un .un) (w := w) (x := dS n ls) (y := dS n ms) rfl rfl).trans (r_union h k w).1
  have b := (call_two (F := F_sum_of) (f := varM 3) (g := varM 4) (ρ := lb n ls ms s5 s6 s7 s8 s10 s11 s12 s13 .un .un .un .un .un .un) (w := w) (x := dS n ls) (y := dS n ms) rfl rfl).trans (r_sum h k w).1
  have c := (call_one (F := F_star) (f := varM 3) (ρ := lb n ls ms s5 s6 s7 s8 s10 s11 s12 s13 .un .un .un .un .un .un) (w := w) (x := dS n ls) rfl).trans (r_star h w).1
  have e : lCons (opM ixD (unM (varM 3) (varM 4)) (kI 1)) (lCons (opM ixD (suM (varM 3) (varM 4)) (kI 1)) (lCons (opM ixD (saM (varM 3)) (kI 1)) lNil)) (lb n ls ms s5 s6 s7 s8 s10 s11 s12 s13 .un .un .un .un .un .un) w = .ok [.tuple ((clean (ls ++ ms)).map dL), .tuple ((clean (sums ls ms)).map dL), .tuple ((clean (starX n ls)).map dL)] w := by
    simp only [lcons_w, lnil_w, op_w, a, b, c, kI_w, ixS1]
  unfold k12 par3M
  rw [bk e]
  rfl
theorem e_k13 {n : Nat} (h12 : n = 1 ∨ n = 2) {ls ms : List Lin} (fs ss : List Vec) (hf : ∀ p ∈ fs, p ∈ grid n) (hfz : fs.length ≤ 49) (s5 s6 s7 s8 s12 s14 s15 s16 : Sl) (w : LS) : k13 (lb n ls ms s5 s6 s7 s8 (vsS (grid n)) (vsS fs) s12 (vsS ss) s14 s15 s16 .un .un .un) w =
    .ok (.nx (lb n ls ms s5 s6 s7 s8 (vsS (grid n)) (vsS fs) s12 (vsS ss) s14 s15 s16 (vsS ((grid n).filter (sumP fs ss))) (vsS (srows fs (zer n) [zer n] (grid n).tail)) .un)) w := by
  obtain ⟨gz, gl⟩ := grid_zer h12
  have G := grid_ok h12
  have glen : ∀ p ∈ grid n, p.length = n := fun p hp => ((G.mem p).mp hp).1
  have h1 : 1 ≤ n := by omega
  have h4 : n ≤ 4 := by omega
  have a := (call_three (F := F_l_sums) (f := varM 11) (g := varM 13) (h := varM 10) (ρ := lb n ls ms s5 s6 s7 s8 (vsS (grid n)) (vsS fs) s12 (vsS ss) s14 s15 s16 .un .un .un) (w := w) (x := .list (fs.map dV)) (y := .list (ss.map dV)) (z := .list ((grid n).map dV)) rfl rfl rfl).trans (t_lsums h1 h4 (fun p hp => glen p (hf p hp)) (by omega) glen (by omega) w)
  have e0 : PyData.list ((grid n).map dV) = .list ((zer n :: (grid n).tail).map dV) := by rw [← gz]
  have tl : (grid n).tail.length ≤ 49 := by
    rw [List.length_tail]
    omega
  have b := (call_two (F := F_l_star_rows) (f := varM 11) (g := varM 10) (ρ := lb n ls ms s5 s6 s7 s8 (vsS (grid n)) (vsS fs) s12 (vsS ss) s14 s15 s16 .un .un .un) (w := w) (x := .list (fs.map dV)) (y := .list ((zer n :: (grid n).tail).map dV)) rfl (by rw [← e0]; rfl)).trans (t_lsrows h1 h4 (fun p hp => glen p (hf p hp)) (by omega) (fun p hp => glen p (List.mem_of_mem_tail hp)) (by omega) w)
  have c : lCons (defM (lenM 3 F_l_sums) (aCons (varM 11) (aCons (varM 13) (aCons (varM 10) aNil)))) (lCons (defM (lenM 2 F_l_star_rows) (aCons (varM 11) (aCons (varM 10) aNil))) lNil) (lb n ls ms s5 s6 s7 s8 (vsS (grid n)) (vsS fs) s12 (vsS ss) s14 s15 s16 .un .un .un) w = .ok [.list (((grid n).filter (sumP fs ss)).map dV), .list ((srows fs (zer n) [zer n] (grid n).tail).map dV)] w := by
    simp only [lcons_w, lnil_w, a, b]
  unfold k13
  rw [par_w 17 18 _ _ w w _ _ c]
  rfl
theorem ne_same (a : Bool) (w : LS) : neD (.bool a) (.bool a) w = .ok (.bool false) w := by cases a <;> kernel_rfl
theorem in12 {ρ : Ev} {v : Vec} {w : LS} {j : Nat} {ss : List Vec} (h : ρ[12]? = some (.fz (dV v))) (hj : ρ[j]? = some (vsS ss)) : inSlM false (varM 12) j ρ w = .ok (.bool (decide (v ∈ ss))) w := by
  have v12 : varM 12 ρ w = .ok (dV v) w := by rw [var_w, h]
  unfold inSlM
  rw [bk v12, hj]
  exact inV_w ss v w
theorem has12 {n : Nat} {os : List Lin} (ho : OkS n os) {ρ : Ev} {v : Vec} {w : LS} {j : Nat} (h : ρ[12]? = some (.fz (dV v))) (hj : ρ[j]? = some (.fz (.tuple (os.map dL)))) (hv : v.length = n ∧ ∀ i ∈ v, 0 ≤ i ∧ i ≤ 6) : hasM (varM j) (varM 12) ρ w = .ok (.bool (hasB os v)) w := by
  have v12 : varM 12 ρ w = .ok (dV v) w := by rw [var_w, h]
  have vj : varM j ρ w = .ok (.tuple (os.map dL)) w := by rw [var_w, hj]
  exact (call_two (F := F_l_has) vj v12).trans (r_has ho hv w)
theorem orV_b {f g : Ev → M PyData} {ρ : Ev} {w : LS} {a b : Bool} (h1 : f ρ w = .ok (.bool a) w) (h2 : g ρ w = .ok (.bool b) w) : orV f g ρ w = .ok (.bool (a || b)) w := by
  rw [orV_w, h1]
  cases a
  · simp only [h2, Bool.false_or]
  · simp only [Bool.true_or]
theorem ne_step {f g : Ev → M PyData} {ρ : Ev} {w : LS} {a b : Bool} (h1 : f ρ w = .ok (.bool a) w) (h2 : g ρ w = .ok (.bool b) w) (e : a = b) : unl (testM (opM neD f g)) ρ w = .ok (.nx ρ) w := by
  refine unl_f (test_of ?_)
  rw [op_w, h1]
  simp only [h2, e, ne_same]
theorem bool_iff {a b : Bool} (h : a = true ↔ b = true) : a = b := by
  cases a <;> cases b <;> simp_all
/-- a row of the grid, looked at -/
theorem e_row {n : Nat} {un su : List Lin} (hu : OkS n un) (hs : OkS n su) {fs ss ds : List Vec} {ρ : Ev} {v : Vec} {w : LS} (hv : v.length = n ∧ ∀ i ∈ v, 0 ≤ i ∧ i ≤ 6)
    (r12 : ρ[12]? = some (.fz (dV v))) (r11 : ρ[11]? = some (vsS fs)) (r13 : ρ[13]? = some (vsS ss)) (r14 : ρ[14]? = some (.fz (.tuple (un.map dL)))) (r15 : ρ[15]? = some (.fz (.tuple (su.map dL)))) (r17 : ρ[17]? = some (vsS ds))
    (q1 : hasB un v = true ↔ v ∈ fs ∨ v ∈ ss) (q2 : hasB su v = true ↔ v ∈ ds) : rowBody ρ w = .ok (.nx ρ) w := by
  have a := ne_step (ρ := ρ) (w := w) (has12 hu r12 r14 hv) (orV_b (in12 r12 r11) (in12 r12 r13)) (bool_iff (by rw [q1, Bool.or_eq_true, decide_eq_true_eq, decide_eq_true_eq]))
  have b := ne_step (ρ := ρ) (w := w) (has12 hs r12 r15 hv) (in12 r12 r17) (bool_iff (by rw [q2, decide_eq_true_eq]))
  unfold rowBody
  rw [seq_r, a, seqR_nx, b]
theorem e_st {n : Nat} {st : List Lin} (hs : OkS n st) {ds : List Vec} {ρ : Ev} {v : Vec} {w : LS} (hv : v.length = n ∧ ∀ i ∈ v, 0 ≤ i ∧ i ≤ 6)
    (r12 : ρ[12]? = some (.fz (dV v))) (r16 : ρ[16]? = some (.fz (.tuple (st.map dL)))) (r18 : ρ[18]? = some (vsS ds)) (q : hasB st v = true ↔ v ∈ ds) : stBody ρ w = .ok (.nx ρ) w :=
  ne_step (has12 hs r12 r16 hv) (in12 r12 r18) (bool_iff (by rw [q, decide_eq_true_eq]))
/-- a loop whose body changes nothing but its variable -/
theorem for_same {b : Ev → M Fl} {w : LS} {ρ : Ev} : ∀ (rs : List Vec) (s : Sl), (∀ v ∈ rs, b (ρ.set 12 (.fz (dV v))) w = .ok (.nx (ρ.set 12 (.fz (dV v)))) w) → ∃ s', forL (tgN 12) b (rs.map dV) (ρ.set 12 s) w = .ok (.nx (ρ.set 12 s')) w
  | [], s, _ => ⟨s, rfl⟩
  | v :: rs, s, h => by
    obtain ⟨s', e⟩ := for_same rs (.fz (dV v)) fun u hu => h u (List.mem_cons_of_mem _ hu)
    refine ⟨s', ?_⟩
    have fc := forL_cons (tgN 12) b (dV v) (rs.map dV) (ρ.set 12 s) (ρ.set 12 (.fz (dV v))) w (by
      show some ((ρ.set 12 s).set 12 (.fz (dV v))) = _
      rw [List.set_set])
    rw [h v (by simp)] at fc
    rw [List.map_cons, fc]
    exact e
end Wh

namespace Wh
open PySem PySem.Spec PyProof.Rows L2

theorem e_k15 {n m : Nat} (h12 : n = 1 ∨ n = 2) {ls ms : List Lin} {w : LS} (h : Wf m w) (hm : m ≤ 900) (s5 s6 s7 s8 s11 s12 s13 s14 s15 s16 s17 s18 : Sl) : ∃ (v : List Int) (w' : LS), k15 (lb n ls ms s5 s6 s7 s8 (vsS (grid n)) s11 s12 s13 s14 s15 s16 s17 s18 .un) w = .ok (.nx (lb n ls ms s5 s6 s7 s8 (vsS (grid n)) s11 s12 s13 s14 s15 s16 s17 s18 (.fz (dI v)))) w' ∧ v.length = 8 ∧ ∀ i ∈ v, 0 ≤ i ∧ i < ((grid n).length : Int) := by
  have gl : (grid n).length = 7 ∨ (grid n).length = 49 := by
    rcases h12 with rfl | rfl
    · exact .inl (by decide +kernel)
    · exact .inr (by decide +kernel)
  have hl := rng_len 0 8
  obtain ⟨v, w', e, hv, hi, _⟩ := t_draws (m0 := 2000) (j := 20) (ρ := lb n ls ms s5 s6 s7 s8 (vsS (grid n)) s11 s12 s13 s14 s15 s16 s17 s18 .un) (B := ((grid n).length : Int)) (by omega) (fe := draw1 (callM lenD (lCons (varM 10) lNil))) (fun d w => by
    refine ⟨la (.fz (.int n)) (.fz (dS n ls)) (.fz (dS n ms)) s5 s6 s7 s8 .un (vsS (grid n)) s11 s12 s13 s14 s15 s16 s17 s18 .un (.fz d), rfl, ?_⟩
    refine call_st (F := F_l_draw) rfl ?_
    have el : callM lenD (lCons (varM 10) lNil) (la (.fz (.int n)) (.fz (dS n ls)) (.fz (dS n ms)) s5 s6 s7 s8 .un (vsS (grid n)) s11 s12 s13 s14 s15 s16 s17 s18 .un (.fz d)) w = .ok (.int (((grid n).map dV).length : Nat)) w := rfl
    rw [el, List.length_map]) (by omega) (rngD 0 8) m w h (by omega)
  rw [hl] at hv
  refine ⟨v, w', ?_, hv, hi⟩
  have er := rng1_w (f := kI 8) (ρ := lb n ls ms s5 s6 s7 s8 (vsS (grid n)) s11 s12 s13 s14 s15 s16 s17 s18 .un) (w := w) (w' := w) (i := 8) rfl ⟨by decide, by decide⟩
  have lc : lcM [20] (tgN 20) (rng1M (lCons (kI 8) lNil)) yesM (draw1 (callM lenD (lCons (varM 10) lNil))) (lb n ls ms s5 s6 s7 s8 (vsS (grid n)) s11 s12 s13 s14 s15 s16 s17 s18 .un) w = .ok (dI v) w' := by
    unfold lcM
    rw [bk er, if_pos (size_of_800 (by show (rngD 0 8).length ≤ _; rw [hl]; decide))]
    show (lcL [20] (tgN 20) yesM (draw1 (callM lenD (lCons (varM 10) lNil))) (lb n ls ms s5 s6 s7 s8 (vsS (grid n)) s11 s12 s13 s14 s15 s16 s17 s18 .un) (rngD 0 8) >>= _) w = _
    rw [bk e]
    rfl
  unfold k15
  rw [set_w, lc]
  rfl
theorem e_pick {n : Nat} {g : List Vec} {v : List Int} {ls ms : List Lin} (hv : v.length = 8) (hi : ∀ i ∈ v, 0 ≤ i ∧ i < (g.length : Int)) (s5 s6 s7 s8 s11 s12 s13 s14 s15 s16 s17 s18 : Sl) (w : LS) : ∃ rs : List Vec, (∀ r ∈ rs, r ∈ g) ∧ itM listM pickL (lb n ls ms s5 s6 s7 s8 (vsS g) s11 s12 s13 s14 s15 s16 s17 s18 (.fz (dI v))) w = .ok (rs.map dV) w := by
  refine ⟨v.map fun i => g.getD i.toNat [], fun r hr => ?_, ?_⟩
  · obtain ⟨i, hm, rfl⟩ := List.mem_map.mp hr
    have := hi i hm
    have hlt : i.toNat < g.length := by omega
    rw [List.getD_eq_getElem?_getD, List.getElem?_eq_getElem hlt, Option.getD_some]
    exact List.getElem_mem hlt
  · have lc := lc_w (g := tgN 20) (vs := [20]) (ft := yesM) (fe := opM ixD (varM 10) (varM 20)) (ρ := lb n ls ms s5 s6 s7 s8 (vsS g) s11 s12 s13 s14 s15 s16 s17 s18 (.fz (dI v))) (w := w) PyData.int (fun _ => true) (fun i => dV (g.getD i.toNat [])) v fun i hm => by
      refine ⟨la (.fz (.int n)) (.fz (dS n ls)) (.fz (dS n ms)) s5 s6 s7 s8 .un (vsS g) s11 s12 s13 s14 s15 s16 s17 s18 (.fz (dI v)) (.fz (.int i)), rfl, rfl, fun _ => ?_⟩
      have q := hi i hm
      have hlt : i.toNat < g.length := by omega
      have hei : (i.toNat : Int) = i := Int.toNat_of_nonneg q.1
      have gi : (g.map dV)[i.toNat]? = some (dV (g.getD i.toNat [])) := by
        rw [List.getElem?_map, List.getD_eq_getElem?_getD, List.getElem?_eq_getElem hlt]
        rfl
      have e : L2.atI (g.map dV) i = some (dV (g.getD i.toNat [])) := by
        have := L2.atI_nat gi
        rwa [hei] at this
      show (match L2.atI (g.map dV) i with | some d => pure d | none => M.no : M PyData) w = _
      rw [e]
      rfl
    rw [List.filter_eq_self.mpr (fun _ _ => rfl)] at lc
    have it : itM listM (varM 19) (lb n ls ms s5 s6 s7 s8 (vsS g) s11 s12 s13 s14 s15 s16 s17 s18 (.fz (dI v))) w = .ok (v.map .int) w := rfl
    have hl : pickL (lb n ls ms s5 s6 s7 s8 (vsS g) s11 s12 s13 s14 s15 s16 s17 s18 (.fz (dI v))) w = .ok (.list (v.map fun i => dV (g.getD i.toNat []))) w := by
      unfold pickL lcM
      rw [bk it, if_pos (size_of_800 (by rw [List.length_map]; omega)), bk lc]
      rfl
    rw [it_w, hl, List.map_map]
    rfl
theorem lo_nn {n : Nat} {B : Int} {R : Nat} {xs : List Lin} (h : ∀ x ∈ xs, Lo n B R x) : ∀ x ∈ xs, ∀ v ∈ x.2, Nn n v := fun x hx v hv => sm_nn ((h x hx).r v hv)
theorem law_ok (ns : List Int) (hl : ns.length ≤ 63) : LawOk ns := by
  refine ⟨law_t _, ?_⟩
  have w0 : Wf 0 (begLS ns) := by
    refine ⟨?_, ?_, Int.le_refl _, Int.le_refl _⟩
    · show (if ns = [] then [0] else ns) ≠ []
      by_cases q : ns = []
      · rw [if_pos q]
        simp
      · rw [if_neg q]
        exact q
    · show ((if ns = [] then [0] else ns).map _).length = _
      rw [List.length_map]
      rfl
  obtain ⟨n, w1, e1, h12, f1⟩ := e_k1 w0 (by decide)
  obtain ⟨ls, ms, w2, e2, h, k, f2⟩ := e_k2 h12 f1 (by decide)
  obtain ⟨w3, e3, f3⟩ := e_k3 (ρ := lb n ls ms .un .un .un .un .un .un .un .un .un .un .un .un .un .un) h12 f2 (by decide) h.ok rfl rfl
  have e4 := e_k4 (ms := ms) h w3
  obtain ⟨s7, s8, e5⟩ := e_k5 h k w3
  have e6 := e_k6 h k (boS ls ms) (stS n ls) s7 s8 w3
  have e7 := e_k7 h k (stS n ls) s7 s8 w3
  have e8 := e_k8 (ms := ms) h (boS ls ms) s7 s8 w3
  have e9 := e_k9 (ls := ls) (ms := ms) h12 (boS ls ms) (stS n ls) s7 s8 w3
  have G := grid_ok h12
  have h1 : 1 ≤ n := by omega
  have g1 := e_grid h12 h.ok (ρ := lb n ls ms (boS ls ms) (stS n ls) s7 s8 (vsS (grid n)) .un .un .un .un .un .un .un .un .un) (w := w3) (j := 3) rfl fun v => ⟨lb n ls ms (boS ls ms) (stS n ls) s7 s8 (vsS (grid n)) .un (.fz (dV v)) .un .un .un .un .un .un .un, rfl, rfl, rfl⟩
  generalize hfs : (grid n).filter (hasB ls) = fs at g1
  have e10 : setM 11 (gridM 3) (lb n ls ms (boS ls ms) (stS n ls) s7 s8 (vsS (grid n)) .un .un .un .un .un .un .un .un .un) w3 = .ok (.nx (lb n ls ms (boS ls ms) (stS n ls) s7 s8 (vsS (grid n)) (vsS fs) .un .un .un .un .un .un .un .un)) w3 := by
    rw [set_w, g1]
    rfl
  have g2 := e_grid h12 k.ok (ρ := lb n ls ms (boS ls ms) (stS n ls) s7 s8 (vsS (grid n)) (vsS fs) .un .un .un .un .un .un .un .un) (w := w3) (j := 4) rfl fun v => ⟨lb n ls ms (boS ls ms) (stS n ls) s7 s8 (vsS (grid n)) (vsS fs) (.fz (dV v)) .un .un .un .un .un .un .un, rfl, rfl, rfl⟩
  generalize hss : (grid n).filter (hasB ms) = ss at g2
  have e11 : setM 13 (gridM 4) (lb n ls ms (boS ls ms) (stS n ls) s7 s8 (vsS (grid n)) (vsS fs) .un .un .un .un .un .un .un .un) w3 = .ok (.nx (lb n ls ms (boS ls ms) (stS n ls) s7 s8 (vsS (grid n)) (vsS fs) .un (vsS ss) .un .un .un .un .un .un)) w3 := by
    rw [set_w, g2]
    rfl
  have e12 := e_k12 h k (boS ls ms) (stS n ls) s7 s8 (vsS (grid n)) (vsS fs) .un (vsS ss) w3
  have mf : ∀ v, v ∈ fs ↔ v ∈ grid n ∧ InS n ls v := fun v => by
    rw [← hfs, List.mem_filter]
    constructor
    · rintro ⟨a, b⟩
      exact ⟨a, (r_has_iff h.ok ((G.mem v).mp a).1).mp b⟩
    · rintro ⟨a, b⟩
      exact ⟨a, (r_has_iff h.ok ((G.mem v).mp a).1).mpr b⟩
  have mg : ∀ v, v ∈ ss ↔ v ∈ grid n ∧ InS n ms v := fun v => by
    rw [← hss, List.mem_filter]
    constructor
    · rintro ⟨a, b⟩
      exact ⟨a, (r_has_iff k.ok ((G.mem v).mp a).1).mp b⟩
    · rintro ⟨a, b⟩
      exact ⟨a, (r_has_iff k.ok ((G.mem v).mp a).1).mpr b⟩
  have fl : fs.length ≤ 49 := by
    rw [← hfs]
    exact Nat.le_trans (List.length_filter_le _ _) (grid_zer h12).2
  have e13 := e_k13 (ls := ls) (ms := ms) h12 fs ss (fun p hp => ((mf p).mp hp).1) fl (boS ls ms) (stS n ls) s7 s8 .un (.fz (.tuple ((clean (ls ++ ms)).map dL))) (.fz (.tuple ((clean (sums ls ms)).map dL))) (stS n ls) w3
  generalize hds : (grid n).filter (sumP fs ss) = ds at e13
  generalize hdt : srows fs (zer n) [zer n] (grid n).tail = dt at e13
  have q1 : ∀ v ∈ grid n, (hasB (clean (ls ++ ms)) v = true ↔ v ∈ fs ∨ v ∈ ss) := fun v hv => by
    rw [r_has_iff (r_union h k w3).2 ((G.mem v).mp hv).1, ins_clean (lo_nn (two_app h k)), ins_union, mf v, mg v]
    constructor
    · rintro (a | a)
      · exact .inl ⟨hv, a⟩
      · exact .inr ⟨hv, a⟩
    · rintro (a | a)
      · exact .inl a.2
      · exact .inr a.2
  have q2 : ∀ v ∈ grid n, (hasB (clean (sums ls ms)) v = true ↔ v ∈ ds) := fun v hv => by
    rw [r_has_iff (r_sum h k w3).2 ((G.mem v).mp hv).1, ins_clean (lo_nn (lo_sums h k)), ins_sum (fun x hx => (h.nn.len x hx).2) (fun x hx => (k.nn.len x hx).2), ← hds, List.mem_filter, sum_iff h1 G h.nn k.nn mf mg hv]
    exact ⟨fun a => ⟨hv, a⟩, fun a => a.2⟩
  have q3 : ∀ v ∈ grid n, (hasB (clean (starX n ls)) v = true ↔ v ∈ dt) := fun v hv => by
    rw [r_has_iff (r_star h w3).2 ((G.mem v).mp hv).1, ins_clean (lo_nn (lo_star h)), ← hdt, star_rows_iff h12 h.nn mf]
    have := ins_star h.nn.len h.z (v := v)
    unfold starX
    rw [this]
    exact ⟨fun a => ⟨hv, a⟩, fun a => a.2⟩
  obtain ⟨s12, e14⟩ := for_same (b := rowBody) (w := w3) (ρ := lb n ls ms (boS ls ms) (stS n ls) s7 s8 (vsS (grid n)) (vsS fs) .un (vsS ss) (.fz (.tuple ((clean (ls ++ ms)).map dL))) (.fz (.tuple ((clean (sums ls ms)).map dL))) (stS n ls) (vsS ds) (vsS dt) .un) (grid n) .un fun v hv =>
    e_row (r_union h k w3).2 (r_sum h k w3).2 (fs := fs) (ss := ss) (ds := ds) ((G.mem v).mp hv) rfl rfl rfl rfl rfl rfl (q1 v hv) (q2 v hv)
  have e14' : forM (tgN 12) (itM listM (varM 10)) rowBody (lb n ls ms (boS ls ms) (stS n ls) s7 s8 (vsS (grid n)) (vsS fs) .un (vsS ss) (.fz (.tuple ((clean (ls ++ ms)).map dL))) (.fz (.tuple ((clean (sums ls ms)).map dL))) (stS n ls) (vsS ds) (vsS dt) .un) w3 = .ok (.nx (lb n ls ms (boS ls ms) (stS n ls) s7 s8 (vsS (grid n)) (vsS fs) s12 (vsS ss) (.fz (.tuple ((clean (ls ++ ms)).map dL))) (.fz (.tuple ((clean (sums ls ms)).map dL))) (stS n ls) (vsS ds) (vsS dt) .un)) w3 := by
    have it : itM listM (varM 10) (lb n ls ms (boS ls ms) (stS n ls) s7 s8 (vsS (grid n)) (vsS fs) .un (vsS ss) (.fz (.tuple ((clean (ls ++ ms)).map dL))) (.fz (.tuple ((clean (sums ls ms)).map dL))) (stS n ls) (vsS ds) (vsS dt) .un) w3 = .ok ((grid n).map dV) w3 := rfl
    rw [for_w, it]
    exact e14
  obtain ⟨pk, w4, e15, pl, pi⟩ := e_k15 (ls := ls) (ms := ms) h12 f3 (by decide) (boS ls ms) (stS n ls) s7 s8 (vsS fs) s12 (vsS ss) (.fz (.tuple ((clean (ls ++ ms)).map dL))) (.fz (.tuple ((clean (sums ls ms)).map dL))) (stS n ls) (vsS ds) (vsS dt)
  obtain ⟨rs, rg, ep⟩ := e_pick (n := n) (g := grid n) (ls := ls) (ms := ms) pl pi (boS ls ms) (stS n ls) s7 s8 (vsS fs) s12 (vsS ss) (.fz (.tuple ((clean (ls ++ ms)).map dL))) (.fz (.tuple ((clean (sums ls ms)).map dL))) (stS n ls) (vsS ds) (vsS dt) w4
  obtain ⟨s12', e16⟩ := for_same (b := stBody) (w := w4) (ρ := lb n ls ms (boS ls ms) (stS n ls) s7 s8 (vsS (grid n)) (vsS fs) s12 (vsS ss) (.fz (.tuple ((clean (ls ++ ms)).map dL))) (.fz (.tuple ((clean (sums ls ms)).map dL))) (stS n ls) (vsS ds) (vsS dt) (.fz (dI pk))) rs s12 fun v hv =>
    e_st (r_star h w3).2 (ds := dt) ((G.mem v).mp (rg v hv)) rfl rfl rfl (q3 v (rg v hv))
  have e16' : forM (tgN 12) (itM listM pickL) stBody (lb n ls ms (boS ls ms) (stS n ls) s7 s8 (vsS (grid n)) (vsS fs) s12 (vsS ss) (.fz (.tuple ((clean (ls ++ ms)).map dL))) (.fz (.tuple ((clean (sums ls ms)).map dL))) (stS n ls) (vsS ds) (vsS dt) (.fz (dI pk))) w4 = .ok (.nx (lb n ls ms (boS ls ms) (stS n ls) s7 s8 (vsS (grid n)) (vsS fs) s12' (vsS ss) (.fz (.tuple ((clean (ls ++ ms)).map dL))) (.fz (.tuple ((clean (sums ls ms)).map dL))) (stS n ls) (vsS ds) (vsS dt) (.fz (dI pk)))) w4 := by
    rw [for_w, ep]
    exact e16
  refine ⟨w4, ?_⟩
  rw [law_form, seq_r, e1, seqR_nx, seq_r, e2, seqR_nx, seq_r, e3, seqR_nx, seq_r, e4, seqR_nx, seq_r, e5, seqR_nx, seq_r, e6, seqR_nx, seq_r, e7, seqR_nx, seq_r, e8, seqR_nx, seq_r, e9, seqR_nx, seq_r, e10, seqR_nx, seq_r, e11, seqR_nx, seq_r, e12, seqR_nx, seq_r, e13, seqR_nx, seq_r, e14', seqR_nx, seq_r, e15, seqR_nx, seq_r, e16', seqR_nx]
  rfl
end Wh
theorem PySem.Challenge.cw_wholesay_k25_whole_unions_sums_stars_holds : PySem.Challenge.rw_wholesay_k25_whole_unions_sums_stars.Holds :=
  PySem.Challenge.cw_of fun ns hl => Wh.law_ok ns hl
