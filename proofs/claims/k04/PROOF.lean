import PyProof.Rows.All
import Wide.All
import OpenK.AllK
import Wide.FinOn
import KE.KStateDown
import Lean
import HandS.ForMost
import HandS.More
import HandS.Defaults
import HandS.Wide
import HandS.IsInst
import HandS.Conv
import HandS.Zip
import HandS.Style
import HandS.Head0
import HandS.Head1
import HandS.Head2
import HandS.HeadEnd
import HandS.HeadHook1
import HandS.HeadHook2
import HandS.Lambda
import HandS.TupAny
import HandS.TupMul
import HandS.TupLe
import HandS.Deep
import HandS.SortInts
import HandS.ForDict
import KE.GoesMore
import HandS.DictComp
import HandS.Sort
import KE.KDictSum
import KE.GoesComp
import KE.KDictCopyH
import PyProof.Rows.CompDC
import KE.SortKeyHeap
import PyProof.Rows.TupSub
import PyProof.Rows.RuleN_abs
import PyProof.Rows.FactsN_abs
import KE.SortUse
import PyProof.Rows.TupMore
import HandS.HeadHook4
import HandS.HeadWalk
import PyProof.TupleOfSeq
import KE.KDictPairs
import PySem.Challenge.RW_slackpen_k04_drawings_edge_by_edge
set_option Elab.async false
set_option linter.all false
set_option maxRecDepth 100000
set_option maxHeartbeats 4000000
namespace G
open PySem PySem.Spec PyProof.Rows L2
def top (i : Nat) : Stmt := PySem.Challenge.pw_slackpen_k04_drawings_edge_by_edge.main.body.getD i (.Pass ⟨0, 0, 0, 0⟩)
abbrev s_is_whole : Stmt := top 11
abbrev s_is_within : Stmt := top 12
abbrev s_is_pair : Stmt := top 13
abbrev s_is_hand : Stmt := top 14
abbrev s_is_pen : Stmt := top 15
abbrev s_is_stand : Stmt := top 16
abbrev s_is_turn : Stmt := top 17
abbrev s_is_row : Stmt := top 18
abbrev s_look_at_pen : Stmt := top 19
abbrev s_look_at_row : Stmt := top 20
abbrev s_turned_so : Stmt := top 21
abbrev s_put : Stmt := top 22
abbrev s_turned : Stmt := top 23
abbrev s_behind : Stmt := top 24
abbrev s_joined : Stmt := top 26
abbrev s_strokes_of : Stmt := top 27
abbrev s_drawing : Stmt := top 28
abbrev s__law_well : Stmt := top 30
abbrev s__law_take : Stmt := top 31
abbrev s__law_bags : Stmt := top 32
abbrev s__law_same : Stmt := top 33
abbrev s__law_lead : Stmt := top 34
abbrev s__law_pen : Stmt := top 35
abbrev s__law_stand : Stmt := top 36
abbrev s__law_row : Stmt := top 37
abbrev s__law_turned : Stmt := top 38
abbrev s__law_edges : Stmt := top 39
abbrev s__law_edges_of : Stmt := top 40
abbrev s__law_far : Stmt := top 41
abbrev s_law : Stmt := top 42
end G
namespace GE
open G PySem PySem.Spec PyProof.Rows L2
def q_is_whole : He.DefD := ⟨("is_whole", none), "is_whole", "is_whole", defArgs s_is_whole, defBody s_is_whole, defScope s_is_whole, [], []⟩
def q_is_within : He.DefD := ⟨("is_within", none), "is_within", "is_within", defArgs s_is_within, defBody s_is_within, defScope s_is_within, [], []⟩
def q_is_pair : He.DefD := ⟨("is_pair", none), "is_pair", "is_pair", defArgs s_is_pair, defBody s_is_pair, defScope s_is_pair, [], []⟩
def q_is_hand : He.DefD := ⟨("is_hand", none), "is_hand", "is_hand", defArgs s_is_hand, defBody s_is_hand, defScope s_is_hand, [], []⟩
def q_is_pen : He.DefD := ⟨("is_pen", none), "is_pen", "is_pen", defArgs s_is_pen, defBody s_is_pen, defScope s_is_pen, [], []⟩
def q_is_stand : He.DefD := ⟨("is_stand", none), "is_stand", "is_stand", defArgs s_is_stand, defBody s_is_stand, defScope s_is_stand, [], []⟩
def q_is_turn : He.DefD := ⟨("is_turn", none), "is_turn", "is_turn", defArgs s_is_turn, defBody s_is_turn, defScope s_is_turn, [], []⟩
def q_is_row : He.DefD := ⟨("is_row", none), "is_row", "is_row", defArgs s_is_row, defBody s_is_row, defScope s_is_row, [], []⟩
def q_look_at_pen : He.DefD := ⟨("look_at_pen", none), "look_at_pen", "look_at_pen", defArgs s_look_at_pen, defBody s_look_at_pen, defScope s_look_at_pen, [], []⟩
def q_look_at_row : He.DefD := ⟨("look_at_row", none), "look_at_row", "look_at_row", defArgs s_look_at_row, defBody s_look_at_row, defScope s_look_at_row, [], []⟩
def q_turned_so : He.DefD := ⟨("turned_so", none), "turned_so", "turned_so", defArgs s_turned_so, defBody s_turned_so, defScope s_turned_so, [], []⟩
def q_put : He.DefD := ⟨("put", none), "put", "put", defArgs s_put, defBody s_put, defScope s_put, [], []⟩
def q_turned : He.DefD := ⟨("turned", none), "turned", "turned", defArgs s_turned, defBody s_turned, defScope s_turned, [], []⟩
def q_behind : He.DefD := ⟨("behind", none), "behind", "behind", defArgs s_behind, defBody s_behind, defScope s_behind, [], []⟩
def q_joined : He.DefD := ⟨("joined", none), "joined", "joined", defArgs s_joined, defBody s_joined, defScope s_joined, [], []⟩
def q_strokes_of : He.DefD := ⟨("strokes_of", none), "strokes_of", "strokes_of", defArgs s_strokes_of, defBody s_strokes_of, defScope s_strokes_of, [], []⟩
def q_drawing : He.DefD := ⟨("drawing", none), "drawing", "drawing", defArgs s_drawing, defBody s_drawing, defScope s_drawing, [], []⟩
def q__law_well : He.DefD := ⟨("_law_well", none), "_law_well", "_law_well", defArgs s__law_well, defBody s__law_well, defScope s__law_well, [], []⟩
def q__law_take : He.DefD := ⟨("_law_take", none), "_law_take", "_law_take", defArgs s__law_take, defBody s__law_take, defScope s__law_take, [], []⟩
def q__law_bags : He.DefD := ⟨("_law_bags", none), "_law_bags", "_law_bags", defArgs s__law_bags, defBody s__law_bags, defScope s__law_bags, [], []⟩
def q__law_same : He.DefD := ⟨("_law_same", none), "_law_same", "_law_same", defArgs s__law_same, defBody s__law_same, defScope s__law_same, [], []⟩
def q__law_lead : He.DefD := ⟨("_law_lead", none), "_law_lead", "_law_lead", defArgs s__law_lead, defBody s__law_lead, defScope s__law_lead, [], []⟩
def q__law_pen : He.DefD := ⟨("_law_pen", none), "_law_pen", "_law_pen", defArgs s__law_pen, defBody s__law_pen, defScope s__law_pen, [], []⟩
def q__law_stand : He.DefD := ⟨("_law_stand", none), "_law_stand", "_law_stand", defArgs s__law_stand, defBody s__law_stand, defScope s__law_stand, [], []⟩
def q__law_row : He.DefD := ⟨("_law_row", none), "_law_row", "_law_row", defArgs s__law_row, defBody s__law_row, defScope s__law_row, [], []⟩
def q__law_turned : He.DefD := ⟨("_law_turned", none), "_law_turned", "_law_turned", defArgs s__law_turned, defBody s__law_turned, defScope s__law_turned, [], []⟩
def q__law_edges : He.DefD := ⟨("_law_edges", none), "_law_edges", "_law_edges", defArgs s__law_edges, defBody s__law_edges, defScope s__law_edges, [], []⟩
def q__law_edges_of : He.DefD := ⟨("_law_edges_of", none), "_law_edges_of", "_law_edges_of", defArgs s__law_edges_of, defBody s__law_edges_of, defScope s__law_edges_of, [], []⟩
def q__law_far : He.DefD := ⟨("_law_far", none), "_law_far", "_law_far", defArgs s__law_far, defBody s__law_far, defScope s__law_far, [], []⟩
def q_law : He.DefD := ⟨("law", none), "law", "law", defArgs s_law, defBody s_law, defScope s_law, [], []⟩
def fn : List He.DefD := ([q_is_whole, q_is_within, q_is_pair, q_is_hand, q_is_pen, q_is_stand, q_is_turn, q_is_row] : List He.DefD) ++ ([q_look_at_pen, q_look_at_row, q_turned_so, q_put, q_turned, q_behind, q_joined, q_strokes_of] : List He.DefD) ++ ([q_drawing, q__law_well, q__law_take, q__law_bags, q__law_same, q__law_lead, q__law_pen, q__law_stand] : List He.DefD) ++ ([q__law_row, q__law_turned, q__law_edges, q__law_edges_of, q__law_far, q_law] : List He.DefD)
def fa : List He.Fa := ([.glo "is_whole", .glo "is_within", .glo "is_pair", .glo "is_hand", .glo "is_pen", .glo "is_stand", .glo "is_turn", .glo "is_row"] : List He.Fa) ++ ([.glo "look_at_pen", .glo "look_at_row", .glo "turned_so", .glo "put", .glo "turned", .glo "behind", .glo "joined", .glo "strokes_of"] : List He.Fa) ++ ([.glo "drawing", .glo "_law_well", .glo "_law_take", .glo "_law_bags", .glo "_law_same", .glo "_law_lead", .glo "_law_pen", .glo "_law_stand"] : List He.Fa) ++ ([.glo "_law_row", .glo "_law_turned", .glo "_law_edges", .glo "_law_edges_of", .glo "_law_far", .glo "law", .int "MOST_SLACK" 20, .int "MOST_LEAD" 9] : List He.Fa) ++ ([.int "MOST_GEAR" 1000000000000000, .int "MOST_TURN" 1000000000000, .int "MOST_ROW" 60, .free "isinstance", .free "len", .free "all", .free "range", .free "zip"] : List He.Fa) ++ ([.free "tuple", .free "list", .free "sorted", .free "enumerate", .free "min", .free "max", .free "bool", .free "int"] : List He.Fa) ++ ([.free "str"] : List He.Fa)
abbrev R : PySem.W.OpenRow := PySem.W.OpenLaw.row PySem.Challenge.rw_slackpen_k04_drawings_edge_by_edge
abbrev hk : PySem.W.Hook := He.hookD 4 fa fn
def ob (s : PySem.W.SharedT) : He.AlD := He.obsDG 4 fa fn (HandSHeadRun.getT s)
theorem ob_eq (s : PySem.W.SharedT) : ob s = hk.obs s.abs := He.obsDG_eq (HandSHeadRun.getT_eq s)
def loose : List PySem.Str := (["is_whole", "is_within", "is_pair", "is_hand", "is_pen", "is_stand", "is_turn", "is_row"] : List PySem.Str) ++ (["look_at_pen", "look_at_row", "turned_so", "put", "turned", "behind", "joined", "strokes_of"] : List PySem.Str) ++ (["drawing", "_law_well", "_law_take", "_law_bags", "_law_same", "_law_lead", "_law_pen", "_law_stand"] : List PySem.Str) ++ (["_law_row", "_law_turned", "_law_edges", "_law_edges_of", "_law_far", "PenError", "NoPen", "NoStand"] : List PySem.Str) ++ (["NoRow", "MOST_SLACK", "MOST_LEAD", "MOST_GEAR", "MOST_TURN", "MOST_ROW"] : List PySem.Str)
theorem run (w : World) : HandSHeadRun.RunEq R (PySem.W.view R.prog [42]) hk ob 4000 loose w := by
  intro os
  kernel_rfl
end GE
namespace G
open PySem PySem.Spec PyProof.Rows L2

/-! GBase: a frame's slots by pure data, worlds of frozen objects, judgements with a pure function each. -/

/-- what a slot of a frame holds: nothing known, just this value, shared data, a list of the frame's own, the list that was handed in to be changed, a dict of the frame's own -/
inductive Sl where
  | un
  | ad (v : V)
  | sh (d : PyData)
  | ow (xs : List PyData)
  | io (xs : List PyData)
  | ok (kvs : List (Key × PyData))
  | ot (kvs : List (List Key × PyData))
  | lk (kvs : List (Key × PyData))
  | lt (kvs : List (List Key × PyData))
  | pi
abbrev En := List Sl
def isOwn : Sl → Bool
  | .un => false
  | .ad _ => false
  | .sh _ => false
  | .lk _ => false
  | .lt _ => false
  | .pi => false
  | _ => true
def isIo : Sl → Bool
  | .io _ => true
  | _ => false
/-- what stays: its objects, the address of the list that was handed in -/
structure Zn where
  fr : Hp
  bag : Addr
  pin : Addr := 0
def Zn.upd (Z : Zn) (p : Addr) (o : HO) : Zn := ⟨L2.upd Z.fr p o, Z.bag, Z.pin⟩

/-! ### data in a world: every list and tuple of it is tracked there -/
mutual
inductive Dr (B : Hp) : V → PyData → Prop
  | non : Dr B .non .none
  | bl (b : Bool) : Dr B (.bl b) (.bool b)
  | int (i : Int) : Dr B (.int i) (.int i)
  | str (x : Str) : Dr B (.str x) (.str x)
  | lst {a : Addr} {xs : List V} {ds : List PyData} : B a = some (.lst xs) → DrAll B xs ds → Dr B (.ref a) (.list ds)
  | tup {a : Addr} {xs : List V} {ds : List PyData} : B a = some (.tup xs) → DrAll B xs ds → Dr B (.ref a) (.tuple ds)
inductive DrAll (B : Hp) : List V → List PyData → Prop
  | nil : DrAll B [] []
  | cons {v : V} {vs : List V} {d : PyData} {ds : List PyData} : Dr B v d → DrAll B vs ds → DrAll B (v :: vs) (d :: ds)
end
mutual
theorem dr_mono {H H' : Hp} (e : Same H H') : ∀ (d : PyData) (v : V), Dr H v d → Dr H' v d
  | .none, _, h => by cases h; exact .non
  | .bool b, _, h => by cases h; exact .bl b
  | .int i, _, h => by cases h; exact .int i
  | .str x, _, h => by cases h; exact .str x
  | .list ds, _, h => by
    cases h with
    | lst hs ha => exact .lst (e _ _ hs) (drAll_mono e ds _ ha)
  | .tuple ds, _, h => by
    cases h with
    | tup hs ha => exact .tup (e _ _ hs) (drAll_mono e ds _ ha)
  | .dict _, _, h => by cases h
theorem drAll_mono {H H' : Hp} (e : Same H H') : ∀ (ds : List PyData) (vs : List V), DrAll H vs ds → DrAll H' vs ds
  | [], _, h => by cases h; exact .nil
  | d :: ds, _, h => by
    cases h with
    | cons h1 h2 => exact .cons (dr_mono e d _ h1) (drAll_mono e ds _ h2)
end
mutual
theorem dr_dp {K : PySem.W.Frag} {H : Hp} : ∀ (d : PyData) (v : V), Dr H v d → Dp K H v d
  | .none, _, h => by cases h; exact .non
  | .bool b, _, h => by cases h; exact .bl b
  | .int i, _, h => by cases h; exact .int i
  | .str x, _, h => by cases h; exact .str x
  | .list ds, _, h => by
    cases h with
    | lst hs ha => exact .lst (SqL.of hs) (drAll_dp ds _ ha)
  | .tuple ds, _, h => by
    cases h with
    | tup hs ha => exact .tup (SqT.of hs) (drAll_dp ds _ ha)
  | .dict _, _, h => by cases h
theorem drAll_dp {K : PySem.W.Frag} {H : Hp} : ∀ (ds : List PyData) (vs : List V), DrAll H vs ds → DpAll K H vs ds
  | [], _, h => by cases h; exact .nil
  | d :: ds, _, h => by
    cases h with
    | cons h1 h2 => exact .cons (dr_dp d _ h1) (drAll_dp ds _ h2)
end
theorem Dr.mono {H H' : Hp} {v : V} {d : PyData} (h : Dr H v d) (e : Same H H') : Dr H' v d := dr_mono e d v h
theorem DrAll.mono {H H' : Hp} {vs : List V} {ds : List PyData} (h : DrAll H vs ds) (e : Same H H') : DrAll H' vs ds := drAll_mono e ds vs h
theorem DrAll.length {H : Hp} : ∀ {vs : List V} {ds : List PyData}, DrAll H vs ds → vs.length = ds.length
  | _, _, .nil => rfl
  | _, _, .cons _ t => by rw [List.length_cons, List.length_cons, DrAll.length t]
theorem DrAll.app {H : Hp} : ∀ {vs ws : List V} {ds es : List PyData}, DrAll H vs ds → DrAll H ws es → DrAll H (vs ++ ws) (ds ++ es)
  | _, _, _, _, .nil, h => h
  | _, _, _, _, .cons a t, h => .cons a (DrAll.app t h)
theorem DrAll.get {H : Hp} : ∀ {vs : List V} {ds : List PyData} {i : Nat} {d : PyData}, DrAll H vs ds → ds[i]? = some d → ∃ v, vs[i]? = some v ∧ Dr H v d
  | _, _, _, _, .nil, e => by simp at e
  | _, _, 0, _, .cons a _, e => by
    simp at e
    subst e
    exact ⟨_, rfl, a⟩
  | _, _, i + 1, _, .cons _ t, e => by
    obtain ⟨v, h1, h2⟩ := DrAll.get (i := i) t (by simpa using e)
    exact ⟨v, by simpa using h1, h2⟩
theorem DrAll.getV {H : Hp} : ∀ {vs : List V} {ds : List PyData} {i : Nat} {v : V}, DrAll H vs ds → vs[i]? = some v → ∃ d, ds[i]? = some d ∧ Dr H v d
  | _, _, _, _, .nil, e => by simp at e
  | _, _, 0, _, .cons a _, e => by
    simp at e
    subst e
    exact ⟨_, rfl, a⟩
  | _, _, i + 1, _, .cons _ t, e => by
    obtain ⟨v, h1, h2⟩ := DrAll.getV (i := i) t (by simpa using e)
    exact ⟨v, by simpa using h1, h2⟩
theorem DrAll.set {H : Hp} {v : V} {d : PyData} (hd : Dr H v d) : ∀ {vs : List V} {ds : List PyData} (i : Nat), DrAll H vs ds → DrAll H (vs.set i v) (ds.set i d)
  | _, _, _, .nil => .nil
  | _, _, 0, .cons _ t => .cons hd t
  | _, _, i + 1, .cons a t => .cons a (DrAll.set hd i t)
theorem DrAll.take {H : Hp} : ∀ {vs : List V} {ds : List PyData} (n : Nat), DrAll H vs ds → DrAll H (vs.take n) (ds.take n)
  | _, _, 0, _ => .nil
  | _, _, _ + 1, .nil => .nil
  | _, _, n + 1, .cons r t => .cons r (DrAll.take n t)
theorem DrAll.drop {H : Hp} : ∀ {vs : List V} {ds : List PyData} (n : Nat), DrAll H vs ds → DrAll H (vs.drop n) (ds.drop n)
  | _, _, 0, r => r
  | _, _, _ + 1, .nil => .nil
  | _, _, n + 1, .cons _ t => DrAll.drop n t
theorem DrAll.ints {H : Hp} : ∀ (ns : List Int), DrAll H (ns.map V.int) (ns.map PyData.int)
  | [] => .nil
  | n :: ns => .cons (.int n) (DrAll.ints ns)
theorem DrAll.ints_inv {H : Hp} : ∀ (ns : List Int) {vs : List V}, DrAll H vs (ns.map PyData.int) → vs = ns.map V.int
  | [], _, h => by cases h; rfl
  | n :: ns, _, h => by
    cases h with
    | cons a t =>
      cases a
      rw [DrAll.ints_inv ns t]
      rfl
theorem DrAll.bools_inv {H : Hp} : ∀ (ns : List Bool) {vs : List V}, DrAll H vs (ns.map PyData.bool) → vs = ns.map V.bl
  | [], _, h => by cases h; rfl
  | n :: ns, _, h => by
    cases h with
    | cons a t =>
      cases a
      rw [DrAll.bools_inv ns t]
      rfl

/-! ### own objects -/
inductive KvR (B : Hp) {κ : Type} : List (κ × V) → List (κ × PyData) → Prop
  | nil : KvR B [] []
  | cons {k : κ} {v : V} {d : PyData} {l : List (κ × V)} {m : List (κ × PyData)} : Dr B v d → KvR B l m → KvR B ((k, v) :: l) ((k, d) :: m)
theorem KvR.mono {B B' : Hp} {κ : Type} (e : Same B B') : ∀ {l : List (κ × V)} {m : List (κ × PyData)}, KvR B l m → KvR B' l m
  | _, _, .nil => .nil
  | _, _, .cons a t => .cons (a.mono e) (t.mono e)
def OwnR (B : Hp) (o : HO) : Sl → Prop
  | .ow xs => match o with
    | .lst vs => DrAll B vs xs
    | _ => False
  | .io xs => match o with
    | .lst vs => DrAll B vs xs
    | _ => False
  | .ok m => match o with
    | .dK l => KvR B l m
    | _ => False
  | .ot m => match o with
    | .dT l => KvR B l m
    | _ => False
  | _ => False
/-- slots that are no data: a known value, a locked dict -/
def AdR (B : Hp) (pin : Addr) (w : Option (Option V)) : Sl → Prop
  | .pi => w = some (some (.ref pin))
  | .ad v => w = some (some v)
  | .lk m => ∃ a d l, w = some (some (.ref a)) ∧ B a = some (.frz d (.dK l)) ∧ KvR B l m
  | .lt m => ∃ a d l, w = some (some (.ref a)) ∧ B a = some (.frz d (.dT l)) ∧ KvR B l m
  | _ => True
theorem AdR.mono {B B' : Hp} {pin : Addr} {w : Option (Option V)} {s : Sl} (h : AdR B pin w s) (e : Same B B') : AdR B' pin w s := by
  cases s with
  | lk m =>
    obtain ⟨a, d, l, h1, h2, h3⟩ := h
    exact ⟨a, d, l, h1, e _ _ h2, h3.mono e⟩
  | lt m =>
    obtain ⟨a, d, l, h1, h2, h3⟩ := h
    exact ⟨a, d, l, h1, e _ _ h2, h3.mono e⟩
  | ad v => exact h
  | pi => exact h
  | _ => trivial
theorem adR_own {B : Hp} {pin : Addr} {w : Option (Option V)} {s : Sl} (h : isOwn s = true) : AdR B pin w s := by
  cases s <;> first | trivial | cases h
theorem OwnR.mono {B B' : Hp} {o : HO} {s : Sl} (h : OwnR B o s) (e : Same B B') : OwnR B' o s := by
  cases s with
  | lk m => exact h.elim
  | lt m => exact h.elim
  | pi => exact h.elim
  | un => exact h.elim
  | ad v => exact h.elim
  | sh d => exact h.elim
  | ow xs => cases o <;> first | exact h.elim | exact DrAll.mono h e
  | io xs => cases o <;> first | exact h.elim | exact DrAll.mono h e
  | ok m => cases o <;> first | exact h.elim | exact KvR.mono e h
  | ot m => cases o <;> first | exact h.elim | exact KvR.mono e h
theorem OwnR.own {B : Hp} {o : HO} {s : Sl} (h : OwnR B o s) : isOwn s = true := by
  cases s <;> first | rfl | exact h.elim

/-! ### tables of code objects, that may grow -/
class TbC where
  tbs : List (Addr × Str)
variable [TbC]
def NoTb : HO → Prop
  | .tbl _ => False
  | .ext _ => False
  | _ => True
def isT : Option HO → Bool
  | some (.tbl _) => true
  | _ => false
theorem isT_no {o : HO} (h : NoTb o) : isT (some o) = false := by
  cases o <;> first | rfl | exact h.elim
theorem isT_at {H : Hp} {a : Addr} {o : HO} (h : H a = some o) (ho : NoTb o) : isT (H a) = false := by
  rw [h]
  exact isT_no ho
/-- no tables in it -/
def NT (M : Hp) : Prop := ∀ a, isT (M a) = false
theorem NT.none : NT (fun _ => none) := fun _ => rfl
theorem NT.upd {M : Hp} (h : NT M) {a : Addr} {o : HO} (ho : NoTb o) : NT (upd M a o) := fun b => by
  by_cases e : b = a
  · subst e
    rw [upd_same]
    exact isT_no ho
  · rw [upd_ne e]
    exact h b
theorem NT.less {M M' : Hp} (h : NT M') (e : Same M M') : NT M := fun a => by
  cases q : M a with
  | none => rfl
  | some o =>
    have := h a
    rw [e _ _ q] at this
    exact this
def TbS (H : Hp) : Prop := ∀ p ∈ TbC.tbs, LamX.TabS H p.1 p.2
theorem TbS.ext {H H' : Hp} (t : TbS H) (e : Same H H') : TbS H' := fun p hp => (t p hp).ext e
theorem TbS.nt {H : Hp} (t : TbS H) {a : Addr} {o : HO} (ha : ∀ u, H a = some u → NoTb u) : TbS (upd H a o) := fun p hp => by
  obtain ⟨ps, h1, h2, h3⟩ := t p hp
  refine ⟨ps, ?_, h2, fun pos cv hc => ?_⟩
  · rw [upd_ne (fun z => by rw [z] at h1; exact ha _ h1)]
    exact h1
  · obtain ⟨c, e1, e2⟩ := h3 pos cv hc
    refine ⟨c, e1, ?_⟩
    rw [upd_ne (fun z => by rw [z] at e2; exact ha _ e2)]
    exact e2
/-- the tables are well, and none of them must stay as it is -/
structure TbOk (fr B H : Hp) : Prop where
  z : NT fr
  b : NT B
  s : TbS H
theorem TbOk.ext {fr B H H' : Hp} (t : TbOk fr B H) (e : Same H H') : TbOk fr B H' := ⟨t.z, t.b, t.s.ext e⟩
theorem TbOk.nt {fr B H : Hp} (t : TbOk fr B H) {a : Addr} {o : HO} (ha : ∀ u, H a = some u → NoTb u) : TbOk fr B (upd H a o) := ⟨t.z, t.b, t.s.nt ha⟩
theorem TbOk.less {fr fr' B H : Hp} (t : TbOk fr' B H) (e : Same fr fr') : TbOk fr B H := ⟨t.z.less e, t.b, t.s⟩
/-- no table joins the world -/
theorem TbOk.world {fr B H : Hp} (t : TbOk fr B H) {a : Addr} {o : HO} (ho : NoTb o) : TbOk fr (upd B a o) H := ⟨t.z, t.b.upd ho, t.s⟩
/-- all but the tables -/
def exT (H : Hp) : Hp := fun a => if isT (H a) = true then none else H a
theorem exT_of {H : Hp} {a : Addr} (h : isT (H a) = false) : exT H a = H a := by
  unfold exT
  rw [h]
  rfl
theorem exT_nt (H : Hp) : NT (exT H) := fun a => by
  unfold exT
  split
  · rfl
  · rename_i z
    exact Bool.eq_false_iff.mpr z
theorem TbS.ok {H : Hp} (t : TbS H) : TbOk (exT H) (fun _ => none) H := ⟨exT_nt H, NT.none, t⟩
theorem TbS.okX {H : Hp} (t : TbS H) : TbOk (fun _ => none) (exT H) H := ⟨NT.none, exT_nt H, t⟩
theorem exT_le (H : Hp) : Same (exT H) H := fun a o e => by
  unfold exT at e
  split at e
  · cases e
  · exact e
/-- what holds no tables and stands in H stands in H without its tables -/
theorem exT_in {M H : Hp} (h : NT M) (s : Same M H) : Same M (exT H) := fun a o e => by
  have h1 := h a
  rw [e] at h1
  rw [exT_of (by rw [s _ _ e]; exact h1)]
  exact s _ _ e
theorem exT_mono {H H' : Hp} (s : Same H H') : Same (exT H) (exT H') := exT_in (exT_nt H) ((exT_le H).trans s)
theorem exT_idem {H H' : Hp} (s : Same (exT H) H') : Same (exT H) (exT H') := exT_in (exT_nt H) s
theorem exT_get {H H' : Hp} {a : Addr} {o : HO} (s : Same (exT H) H') (h : H a = some o) (ho : NoTb o) : H' a = some o :=
  s a o ((exT_of (isT_at h ho)).trans h)
theorem OwnR.noTb {B : Hp} {o : HO} {s : Sl} (h : OwnR B o s) : NoTb o := by
  cases s <;> cases o <;> first | exact h.elim | trivial
/-- what is known of a frame: B the frozen world, Z what must stay, H the heap -/
structure EnvOk (Z : Zn) (B : Hp) (σ : L2.St) (H : Hp) (ρ : En) : Prop where
  le : Same B H
  lz : Same Z.fr H
  dj : ∀ a o, Z.fr a = some o → B a = none
  len : σ.length = ρ.length
  sh : ∀ (i : Nat) d, ρ[i]? = some (.sh d) → ∃ v, σ[i]? = some (some v) ∧ Dr B v d
  ow : ∀ (i : Nat) s, ρ[i]? = some s → isOwn s = true → ∃ a o, σ[i]? = some (some (.ref a)) ∧ H a = some o ∧ B a = none ∧ Z.fr a = none ∧ OwnR B o s
  io : ∀ (i : Nat) xs, ρ[i]? = some (.io xs) → σ[i]? = some (some (.ref Z.bag))
  ad : ∀ (i : Nat) s, ρ[i]? = some s → AdR B Z.pin σ[i]? s
  inj : ∀ (i j : Nat) s t a, ρ[i]? = some s → isOwn s = true → ρ[j]? = some t → isOwn t = true → σ[i]? = some (some (.ref a)) → σ[j]? = some (some (.ref a)) → i = j
  tb : TbOk Z.fr B H
theorem EnvOk.leX {Z : Zn} {B : Hp} {σ : L2.St} {H : Hp} {ρ : En} (ok : EnvOk Z B σ H ρ) : Same B (exT H) := exT_in ok.tb.b ok.le
theorem EnvOk.lzX {Z : Zn} {B : Hp} {σ : L2.St} {H : Hp} {ρ : En} (ok : EnvOk Z B σ H ρ) : Same Z.fr (exT H) := exT_in ok.tb.z ok.lz
/-- the address is no own object's -/
def NotOwn (σ : L2.St) (ρ : En) (a : Addr) : Prop := ∀ (j : Nat) s, ρ[j]? = some s → isOwn s = true → σ[j]? ≠ some (some (.ref a))

section
variable {Z : Zn} {B : Hp} {σ : L2.St} {H : Hp} {ρ : En}
theorem none_of_le {B H : Hp} {a : Addr} (e : Same B H) (h : H a = none) : B a = none := e.free h
theorem same_upd_new {B : Hp} {p : Addr} {o : HO} (h : B p = none) : Same B (upd B p o) := fun a u e => by
  rw [upd_ne (ne_of_none e h)]
  exact e
theorem same_upd_right {B H : Hp} {p : Addr} {o : HO} (e : Same B H) (h : B p = none) : Same B (upd H p o) := fun a u q => by
  rw [upd_ne (ne_of_none q h)]
  exact e a u q
theorem same_upd_both {B H : Hp} {p : Addr} {o : HO} (e : Same B H) : Same (upd B p o) (upd H p o) := fun a u q => by
  by_cases h : a = p
  · subst h
    rw [upd_same] at q ⊢
    exact q
  · rw [upd_ne h] at q ⊢
    exact e a u q
theorem NotOwn.new (ok : EnvOk Z B σ H ρ) {a : Addr} (h : H a = none) : NotOwn σ ρ a := fun j s e1 e2 e3 => by
  obtain ⟨b, o, e4, e5, _⟩ := ok.ow j s e1 e2
  rw [e3] at e4
  cases e4
  rw [h] at e5
  cases e5
theorem NotOwn.newX (ok : EnvOk Z B σ H ρ) {a : Addr} (h : exT H a = none) : NotOwn σ ρ a := fun j s e1 e2 e3 => by
  obtain ⟨b, o, e4, e5, _, _, e6⟩ := ok.ow j s e1 e2
  rw [e3] at e4
  cases e4
  rw [exT_of (isT_at e5 e6.noTb), e5] at h
  cases h
/-- a new object, not tracked by the world -/
theorem EnvOk.junk (ok : EnvOk Z B σ H ρ) {p : Addr} {o : HO} (h : H p = none) : EnvOk Z B σ (upd H p o) ρ := by
  refine ⟨same_upd_right ok.le (ok.le.free h), same_upd_right ok.lz (ok.lz.free h), ok.dj, ok.len, ok.sh, fun i s e1 e2 => ?_, ok.io, ok.ad, ok.inj, ok.tb.nt fun u z => by rw [h] at z; cases z⟩
  obtain ⟨a, u, h1, h2, h3, h4, h5⟩ := ok.ow i s e1 e2
  exact ⟨a, u, h1, by rw [upd_ne (ne_of_none h2 h)]; exact h2, h3, h4, h5⟩
/-- a heap's object joins the world -/
theorem EnvOk.freeze (ok : EnvOk Z B σ H ρ) {p : Addr} {o : HO} (h : H p = some o) (hb : B p = none) (hz : Z.fr p = none) (hn : NotOwn σ ρ p) (ht : NoTb o := by trivial) : EnvOk Z (upd B p o) σ H ρ := by
  have sb : Same B (upd B p o) := same_upd_new hb
  refine ⟨fun a u q => ?_, ok.lz, fun a u q => ?_, ok.len, fun i d e => ?_, fun i s e1 e2 => ?_, ok.io, fun i s e => (ok.ad i s e).mono sb, ok.inj, ok.tb.world ht⟩
  · by_cases e : a = p
    · subst e
      rw [upd_same] at q
      rw [← q]
      exact h
    · rw [upd_ne e] at q
      exact ok.le a u q
  · rw [upd_ne (ne_of_none q hz)]
    exact ok.dj a u q
  · obtain ⟨v, h1, h2⟩ := ok.sh i d e
    exact ⟨v, h1, h2.mono sb⟩
  · obtain ⟨a, u, h1, h2, h3, h4, h5⟩ := ok.ow i s e1 e2
    have ne : a ≠ p := fun z => hn i s e1 e2 (by rw [← z]; exact h1)
    exact ⟨a, u, h1, h2, by rw [upd_ne ne]; exact h3, h4, h5.mono sb⟩
/-- a new object that joins the world -/
theorem EnvOk.laid (ok : EnvOk Z B σ H ρ) {p : Addr} {o : HO} (h : H p = none) (ht : NoTb o := by trivial) : EnvOk Z (upd B p o) σ (upd H p o) ρ :=
  (ok.junk h).freeze upd_same (ok.le.free h) (ok.lz.free h) (NotOwn.new ok h) ht
theorem EnvOk.zle {Z' : Zn} (ok : EnvOk Z' B σ H ρ) (e : Same Z.fr Z'.fr) (hb : Z'.bag = Z.bag) (hp : Z'.pin = Z.pin := by rfl) : EnvOk Z B σ H ρ := by
  refine ⟨ok.le, e.trans ok.lz, fun a o q => ok.dj a o (e a o q), ok.len, ok.sh, fun i s e1 e2 => ?_, fun i xs h => by rw [← hb]; exact ok.io i xs h, fun i s h => by rw [← hp]; exact ok.ad i s h, ok.inj, ok.tb.less e⟩
  obtain ⟨a, u, h1, h2, h3, h4, h5⟩ := ok.ow i s e1 e2
  exact ⟨a, u, h1, h2, h3, e.free h4, h5⟩
/-- an object that nobody knows is kept -/
theorem EnvOk.keep (ok : EnvOk Z B σ H ρ) {p : Addr} {o : HO} (h : H p = some o) (hb : B p = none) (hn : NotOwn σ ρ p) (ht : NoTb o := by trivial) : EnvOk (Z.upd p o) B σ H ρ := by
  refine ⟨ok.le, fun a u q => ?_, fun a u q => ?_, ok.len, ok.sh, fun i s e1 e2 => ?_, ok.io, ok.ad, ok.inj, ok.tb.z.upd ht, ok.tb.b, ok.tb.s⟩
  · have q' : upd Z.fr p o a = some u := q
    by_cases e : a = p
    · subst e
      rw [upd_same] at q'
      rw [← q']
      exact h
    · rw [upd_ne e] at q'
      exact ok.lz a u q'
  · have q' : upd Z.fr p o a = some u := q
    by_cases e : a = p
    · subst e
      exact hb
    · rw [upd_ne e] at q'
      exact ok.dj a u q'
  · obtain ⟨a, u, h1, h2, h3, h4, h5⟩ := ok.ow i s e1 e2
    have ne : a ≠ p := fun z => hn i s e1 e2 (by rw [← z]; exact h1)
    exact ⟨a, u, h1, h2, h3, by show upd Z.fr p o a = none; rw [upd_ne ne]; exact h4, h5⟩
/-- an object outside changes -/
theorem EnvOk.other (ok : EnvOk Z B σ H ρ) {p : Addr} {o : HO} (hb : B p = none) (hz : Z.fr p = none) (hn : NotOwn σ ρ p) (ht : ∀ u, H p = some u → NoTb u) : EnvOk Z B σ (upd H p o) ρ := by
  refine ⟨same_upd_right ok.le hb, same_upd_right ok.lz hz, ok.dj, ok.len, ok.sh, fun i s e1 e2 => ?_, ok.io, ok.ad, ok.inj, ok.tb.nt ht⟩
  obtain ⟨a, u, h1, h2, h3, h4, h5⟩ := ok.ow i s e1 e2
  have ne : a ≠ p := fun z => hn i s e1 e2 (by rw [← z]; exact h1)
  exact ⟨a, u, h1, by rw [upd_ne ne]; exact h2, h3, h4, h5⟩
theorem getElem?_set_cases {α : Type} {l : List α} {i j : Nat} {x y : α} (h : (l.set i x)[j]? = some y) : (j = i ∧ y = x ∧ i < l.length) ∨ (j ≠ i ∧ l[j]? = some y) := by
  by_cases e : j = i
  · subst e
    by_cases hl : j < l.length
    · rw [List.getElem?_set_self hl] at h
      cases h
      exact .inl ⟨rfl, rfl, hl⟩
    · rw [List.getElem?_eq_none (by rw [List.length_set]; omega)] at h
      cases h
  · rw [List.getElem?_set_ne (Ne.symm e)] at h
    exact .inr ⟨e, h⟩
theorem EnvOk.setSh (ok : EnvOk Z B σ H ρ) (i : Nat) {v : V} {d : PyData} (hd : Dr B v d) : EnvOk Z B (σ.set i (some v)) H (ρ.set i (.sh d)) := by
  refine ⟨ok.le, ok.lz, ok.dj, by rw [List.length_set, List.length_set]; exact ok.len, fun j e h => ?_, fun j s e1 e2 => ?_, fun j xs h => ?_, fun j w h => ?_, fun j k s t a e1 e2 e3 e4 e5 e6 => ?_, ok.tb⟩
  · rcases getElem?_set_cases h with ⟨rfl, h2, h3⟩ | ⟨h1, h2⟩
    · cases h2
      exact ⟨v, by rw [List.getElem?_set_self (by rw [ok.len]; exact h3)], hd⟩
    · obtain ⟨v', h3, h4⟩ := ok.sh j e h2
      exact ⟨v', by rw [List.getElem?_set_ne (Ne.symm h1)]; exact h3, h4⟩
  · rcases getElem?_set_cases e1 with ⟨rfl, h2, h3⟩ | ⟨h1, h2⟩
    · subst h2
      cases e2
    · obtain ⟨a, u, h3, h4⟩ := ok.ow j s h2 e2
      exact ⟨a, u, by rw [List.getElem?_set_ne (Ne.symm h1)]; exact h3, h4⟩
  · rcases getElem?_set_cases h with ⟨rfl, h2, h3⟩ | ⟨h1, h2⟩
    · cases h2
    · rw [List.getElem?_set_ne (Ne.symm h1)]
      exact ok.io j xs h2
  · rcases getElem?_set_cases h with ⟨rfl, h2, h3⟩ | ⟨h1, h2⟩
    · cases h2
      exact trivial
    · rw [List.getElem?_set_ne (Ne.symm h1)]
      exact ok.ad j w h2
  · rcases getElem?_set_cases e1 with ⟨rfl, h2, h3⟩ | ⟨h1, h2⟩
    · subst h2
      cases e2
    · rcases getElem?_set_cases e3 with ⟨rfl, h4, h5⟩ | ⟨h3, h4⟩
      · subst h4
        cases e4
      · rw [List.getElem?_set_ne (Ne.symm h1)] at e5
        rw [List.getElem?_set_ne (Ne.symm h3)] at e6
        exact ok.inj j k s t a h2 e2 h4 e4 e5 e6
theorem EnvOk.setOw (ok : EnvOk Z B σ H ρ) (i : Nat) {a : Addr} {o : HO} {s : Sl} (h : H a = some o) (hb : B a = none) (hz : Z.fr a = none) (hn : NotOwn σ ρ a) (hr : OwnR B o s) (hio : isIo s = true → a = Z.bag) : EnvOk Z B (σ.set i (some (.ref a))) H (ρ.set i s) := by
  have hs := hr.own
  refine ⟨ok.le, ok.lz, ok.dj, by rw [List.length_set, List.length_set]; exact ok.len, fun j e h => ?_, fun j s e1 e2 => ?_, fun j xs h => ?_, fun j w h => ?_, fun j k s t b e1 e2 e3 e4 e5 e6 => ?_, ok.tb⟩
  · rcases getElem?_set_cases h with ⟨rfl, h2, h3⟩ | ⟨h1, h2⟩
    · rw [← h2] at hs
      cases hs
    · obtain ⟨v', h3, h4⟩ := ok.sh j e h2
      exact ⟨v', by rw [List.getElem?_set_ne (Ne.symm h1)]; exact h3, h4⟩
  · rcases getElem?_set_cases e1 with ⟨rfl, h2, h3⟩ | ⟨h1, h2⟩
    · subst h2
      exact ⟨a, o, by rw [List.getElem?_set_self (by rw [ok.len]; exact h3)], h, hb, hz, hr⟩
    · obtain ⟨a, u, h3, h4⟩ := ok.ow j s h2 e2
      exact ⟨a, u, by rw [List.getElem?_set_ne (Ne.symm h1)]; exact h3, h4⟩
  · rcases getElem?_set_cases h with ⟨rfl, h2, h3⟩ | ⟨h1, h2⟩
    · rw [List.getElem?_set_self (by rw [ok.len]; exact h3), ← hio (by rw [← h2]; rfl)]
    · rw [List.getElem?_set_ne (Ne.symm h1)]
      exact ok.io j xs h2
  · rcases getElem?_set_cases h with ⟨rfl, h2, h3⟩ | ⟨h1, h2⟩
    · rw [h2]
      exact adR_own hs
    · rw [List.getElem?_set_ne (Ne.symm h1)]
      exact ok.ad j w h2
  · rcases getElem?_set_cases e1 with ⟨rfl, h2, h3⟩ | ⟨h1, h2⟩
    · rcases getElem?_set_cases e3 with ⟨rfl, h4, h5⟩ | ⟨h3', h4⟩
      · rfl
      · rw [List.getElem?_set_self (by rw [ok.len]; exact h3)] at e5
        cases e5
        rw [List.getElem?_set_ne (Ne.symm h3')] at e6
        exact (hn k t h4 e4 e6).elim
    · rcases getElem?_set_cases e3 with ⟨rfl, h4, h5⟩ | ⟨h3, h4⟩
      · rw [List.getElem?_set_self (by rw [ok.len]; exact h5)] at e6
        cases e6
        rw [List.getElem?_set_ne (Ne.symm h1)] at e5
        exact (hn j s h2 e2 e5).elim
      · rw [List.getElem?_set_ne (Ne.symm h1)] at e5
        rw [List.getElem?_set_ne (Ne.symm h3)] at e6
        exact ok.inj j k s t b h2 e2 h4 e4 e5 e6
/-- an own object changes -/
theorem EnvOk.mut (ok : EnvOk Z B σ H ρ) {i : Nat} {a : Addr} {s s' : Sl} {o' : HO} (h1 : ρ[i]? = some s) (h2 : isOwn s = true) (h3 : σ[i]? = some (some (.ref a))) (hr : OwnR B o' s') (hio : isIo s' = true → a = Z.bag := by first | exact (fun z => nomatch z) | assumption) : EnvOk Z B σ (upd H a o') (ρ.set i s') := by
  have hs := hr.own
  obtain ⟨a2, o2, q1, q2, q3, q4, q5⟩ := ok.ow i s h1 h2
  rw [h3] at q1
  cases q1
  have hi : i < ρ.length := (List.getElem?_eq_some_iff.mp h1).1
  refine ⟨same_upd_right ok.le q3, same_upd_right ok.lz q4, ok.dj, by rw [List.length_set]; exact ok.len, fun j e h => ?_, fun j t e1 e2 => ?_, fun j xs h => ?_, fun j w h => ?_, fun j k t u b e1 e2 e3 e4 e5 e6 => ?_, ok.tb.nt fun u z => by
    rw [q2] at z
    cases z
    exact q5.noTb⟩
  · rcases getElem?_set_cases h with ⟨rfl, z2, z3⟩ | ⟨z1, z2⟩
    · rw [← z2] at hs
      cases hs
    · exact ok.sh j e z2
  · rcases getElem?_set_cases e1 with ⟨rfl, z2, z3⟩ | ⟨z1, z2⟩
    · subst z2
      exact ⟨a, o', h3, upd_same, q3, q4, hr⟩
    · obtain ⟨b, u, y1, y2, y3⟩ := ok.ow j t z2 e2
      have ne : b ≠ a := fun z => z1 (ok.inj j i t s a z2 e2 h1 h2 (by rw [← z]; exact y1) h3)
      exact ⟨b, u, y1, by rw [upd_ne ne]; exact y2, y3⟩
  · rcases getElem?_set_cases h with ⟨rfl, z2, z3⟩ | ⟨z1, z2⟩
    · rw [h3, ← hio (by rw [← z2]; rfl)]
    · exact ok.io j xs z2
  · rcases getElem?_set_cases h with ⟨rfl, z2, z3⟩ | ⟨z1, z2⟩
    · rw [z2]
      exact adR_own hs
    · exact ok.ad j w z2
  · have hj : ∃ t', ρ[j]? = some t' ∧ isOwn t' = true := by
      rcases getElem?_set_cases e1 with ⟨rfl, z2, z3⟩ | ⟨z1, z2⟩
      · exact ⟨s, h1, h2⟩
      · exact ⟨t, z2, e2⟩
    have hk : ∃ t', ρ[k]? = some t' ∧ isOwn t' = true := by
      rcases getElem?_set_cases e3 with ⟨rfl, z2, z3⟩ | ⟨z1, z2⟩
      · exact ⟨s, h1, h2⟩
      · exact ⟨u, z2, e4⟩
    obtain ⟨t1, y1, y2⟩ := hj
    obtain ⟨t2, y3, y4⟩ := hk
    exact ok.inj j k t1 t2 b y1 y2 y3 y4 e5 e6
/-- forgetting -/
theorem EnvOk.forget (ok : EnvOk Z B σ H ρ) (i : Nat) : EnvOk Z B σ H (ρ.set i .un) := by
  refine ⟨ok.le, ok.lz, ok.dj, by rw [List.length_set]; exact ok.len, fun j e h => ?_, fun j s e1 e2 => ?_, fun j xs h => ?_, fun j w h => ?_, fun j k s t b e1 e2 e3 e4 e5 e6 => ?_, ok.tb⟩
  · rcases getElem?_set_cases h with ⟨rfl, z2, z3⟩ | ⟨z1, z2⟩
    · cases z2
    · exact ok.sh j e z2
  · rcases getElem?_set_cases e1 with ⟨rfl, z2, z3⟩ | ⟨z1, z2⟩
    · subst z2
      cases e2
    · exact ok.ow j s z2 e2
  · rcases getElem?_set_cases h with ⟨rfl, z2, z3⟩ | ⟨z1, z2⟩
    · cases z2
    · exact ok.io j xs z2
  · rcases getElem?_set_cases h with ⟨rfl, z2, z3⟩ | ⟨z1, z2⟩
    · cases z2
      exact trivial
    · exact ok.ad j w z2
  · rcases getElem?_set_cases e1 with ⟨rfl, z2, z3⟩ | ⟨z1, z2⟩
    · subst z2
      cases e2
    · rcases getElem?_set_cases e3 with ⟨rfl, y2, y3⟩ | ⟨y1, y2⟩
      · subst y2
        cases e4
      · exact ok.inj j k s t b z2 e2 y2 e4 e5 e6
/-- an own slot turned into shared data -/
theorem EnvOk.share (ok : EnvOk Z B σ H ρ) {i : Nat} {xs : List PyData} (h1 : ρ[i]? = some (.ow xs)) : ∃ a vs, σ[i]? = some (some (.ref a)) ∧ H a = some (.lst vs) ∧ B a = none ∧ Z.fr a = none ∧ DrAll B vs xs ∧
    EnvOk Z (upd B a (.lst vs)) σ H (ρ.set i (.sh (.list xs))) := by
  obtain ⟨a, o, q1, q2, q3, q4, q5⟩ := ok.ow i _ h1 rfl
  cases o with
  | lst vs =>
    have sb : Same B (upd B a (.lst vs)) := same_upd_new q3
    have f1 := ok.forget i
    have hn : NotOwn σ (ρ.set i .un) a := fun j s e1 e2 e3 => by
      rcases getElem?_set_cases e1 with ⟨rfl, z2, z3⟩ | ⟨z1, z2⟩
      · subst z2
        cases e2
      · exact z1 (ok.inj j i s _ a z2 e2 h1 rfl e3 q1)
    have f2 := f1.freeze q2 q3 q4 hn
    have f3 := f2.setSh i (v := .ref a) (d := .list xs) (.lst (upd_same) (DrAll.mono q5 sb))
    have e1 : σ.set i (some (V.ref a)) = σ := by
      apply List.ext_getElem?
      intro j
      by_cases e : j = i
      · subst e
        have hl : j < σ.length := (List.getElem?_eq_some_iff.mp q1).1
        rw [List.getElem?_set_self hl, q1]
      · rw [List.getElem?_set_ne (Ne.symm e)]
    have e2 : (ρ.set i Sl.un).set i (.sh (.list xs)) = ρ.set i (.sh (.list xs)) := List.set_set ..
    rw [e1, e2] at f3
    exact ⟨a, vs, q1, q2, q3, q4, q5, f3⟩
  | _ => exact q5.elim
end

/-! GExpr: expressions, each with its pure function. -/

/-- a result: shared data, or a new object that nobody else knows -/
def RepR (Z : Zn) (B H : Hp) (NO : Addr → Prop) (v : V) (s : Sl) : Prop :=
  (∃ d, s = .sh d ∧ Dr B v d) ∨ (∃ a o, v = .ref a ∧ H a = some o ∧ B a = none ∧ Z.fr a = none ∧ NO a ∧ OwnR B o s ∧ isIo s = false)
abbrev FE := En → Option (PyData × En)
abbrev FR := En → Option (Sl × En)
abbrev FT := En → Option (Bool × En)
abbrev FA := En → Option (List PyData × En)
def tE (f : FE) : TE := fun σ H Q => ∃ Z B ρ d ρ', EnvOk Z B σ H ρ ∧ f ρ = some (d, ρ') ∧ ∀ B' H' v, Same B B' → EnvOk Z B' σ H' ρ' → Dr B' v d → Q v H'
def tR (f : FR) : TE := fun σ H Q => ∃ Z B ρ s ρ', EnvOk Z B σ H ρ ∧ f ρ = some (s, ρ') ∧ ∀ B' H' v, Same B B' → EnvOk Z B' σ H' ρ' → RepR Z B' H' (NotOwn σ ρ') v s → Q v H'
def tT (f : FT) : TT := fun σ H Q => ∃ Z B ρ b ρ', EnvOk Z B σ H ρ ∧ f ρ = some (b, ρ') ∧ ∀ B' H', Same B B' → EnvOk Z B' σ H' ρ' → Q b H'
def tA (f : FA) : TA := fun σ H Q => ∃ Z B ρ ds ρ', EnvOk Z B σ H ρ ∧ f ρ = some (ds, ρ') ∧ ∀ B' H' vs, Same B B' → EnvOk Z B' σ H' ρ' → DrAll B' vs ds → Q vs H'
abbrev DE (X : Cx) (e : Expr) (f : FE) := PE X e (tE f)
abbrev DR (X : Cx) (e : Expr) (f : FR) := PE X e (tR f)
abbrev DT (X : Cx) (e : Expr) (f : FT) := PT X e (tT f)
abbrev DW (X : Cx) (e : Expr) (f : FT) := PW X e (tT f)
abbrev DA (X : Cx) (es : List Expr) (f : FA) := PA X es (tA f)

theorem pe_imp {X : Cx} {e : Expr} {t t' : TE} (h : PE X e t) (i : ∀ σ H Q, t' σ H Q → t σ H Q) : PE X e t' := ⟨fun pins s σ H Q I q => h.run pins s σ H Q I (i σ H Q q)⟩
theorem pt_imp {X : Cx} {e : Expr} {t t' : TT} (h : PT X e t) (i : ∀ σ H Q, t' σ H Q → t σ H Q) : PT X e t' := ⟨fun pins s σ H Q I q => h.run pins s σ H Q I (i σ H Q q)⟩
theorem pw_imp {X : Cx} {e : Expr} {t t' : TT} (h : PW X e t) (i : ∀ σ H Q, t' σ H Q → t σ H Q) : PW X e t' := ⟨fun wh pins s σ H Q I q => h.run wh pins s σ H Q I (i σ H Q q)⟩
theorem pa_imp {X : Cx} {es : List Expr} {t t' : TA} (h : PA X es t) (i : ∀ σ H Q, t' σ H Q → t σ H Q) : PA X es t' := ⟨fun pos pins s σ H Q I q => h.run pos pins s σ H Q I (i σ H Q q)⟩

/-! ### between shared and new -/
def fzS : Sl → Option PyData
  | .sh d => some d
  | .ow xs => some (.list xs)
  | _ => none
/-- a new list given away -/
def fFz (f : FR) : FE := fun ρ => (f ρ).bind fun p => (fzS p.1).map fun d => (d, p.2)
def fSh (f : FE) : FR := fun ρ => (f ρ).map fun p => (.sh p.1, p.2)
theorem dr_sh {X : Cx} {e : Expr} {f : FE} (h : DE X e f) : DR X e (fSh f) := pe_imp h fun σ H Q ⟨Z, B, ρ, s, ρ', ok, e, q⟩ => by
  unfold fSh at e
  obtain ⟨⟨d, ρ1⟩, e1, e2⟩ := Option.map_eq_some_iff.mp e
  cases e2
  exact ⟨Z, B, ρ, d, ρ1, ok, e1, fun B' H' v s1 ok1 dv => q B' H' v s1 ok1 (.inl ⟨d, rfl, dv⟩)⟩
theorem RepR.share {Z : Zn} {B : Hp} {σ : L2.St} {H : Hp} {ρ : En} {v : V} {s : Sl} {d : PyData} (ok : EnvOk Z B σ H ρ) (r : RepR Z B H (NotOwn σ ρ) v s) (e : fzS s = some d) : ∃ B', Same B B' ∧ EnvOk Z B' σ H ρ ∧ Dr B' v d := by
  rcases r with ⟨d', rfl, r⟩ | ⟨a, o, rfl, h1, h2, h3, h4, h5, _⟩
  · cases e
    exact ⟨B, Same.refl B, ok, r⟩
  · cases s with
    | ow xs =>
      cases e
      cases o with
      | lst vs =>
        have sb : Same B (upd B a (.lst vs)) := same_upd_new h2
        exact ⟨_, sb, ok.freeze h1 h2 h3 h4, .lst upd_same (DrAll.mono h5 sb)⟩
      | _ => exact h5.elim
    | sh d => cases (h5.own : isOwn (.sh d) = true)
    | _ => cases e
theorem de_fz {X : Cx} {e : Expr} {f : FR} (h : DR X e f) : DE X e (fFz f) := pe_imp h fun σ H Q ⟨Z, B, ρ, d, ρ', ok, e, q⟩ => by
  unfold fFz at e
  obtain ⟨⟨s, ρ1⟩, e1, e2⟩ := Option.bind_eq_some_iff.mp e
  obtain ⟨d', e3, e4⟩ := Option.map_eq_some_iff.mp e2
  cases e4
  refine ⟨Z, B, ρ, s, ρ1, ok, e1, fun B' H' v s1 ok1 r => ?_⟩
  obtain ⟨B2, s2, ok2, dv⟩ := RepR.share ok1 r e3
  exact q B2 H' v (s1.trans s2) ok2 dv

/-! ### names, constants -/
/-- an own list that is read by its name becomes shared -/
def fVar (i : Nat) : FE := fun ρ => match ρ[i]? with
  | some (.sh d) => some (d, ρ)
  | some (.ow xs) => some (.list xs, ρ.set i (.sh (.list xs)))
  | _ => none
def fC (d : PyData) : FE := fun ρ => some (d, ρ)
section
variable {X : Cx} {a b c e : Expr} {es : List Expr} {f g h : FE} {pos : Pos}
theorem de_of {t : TE} (p : PE X e t) (i : ∀ σ H Q Z B ρ d ρ', EnvOk Z B σ H ρ → f ρ = some (d, ρ') → (∀ B' H' v, Same B B' → EnvOk Z B' σ H' ρ' → Dr B' v d → Q v H') → t σ H Q) : DE X e f :=
  pe_imp p fun σ H Q ⟨Z, B, ρ, d, ρ', ok, e, q⟩ => i σ H Q Z B ρ d ρ' ok e q
theorem de_var (i : Nat) {x : Str} (hN : X.N[i]? = some x := by rfl) (hv : Vis X.env.scope x := by first | exact Or.inl rfl | exact Or.inr (Or.inl rfl) | exact Or.inr (Or.inr rfl)) (hd : (x == ("__debug__" : Str)) = false := by decide)
    (hcd : (x == ("__classdict__" : Str)) = false := by decide) : DE X (.Name x pos) (fVar i) := de_of (pe_var hN hv hd hcd) fun σ H Q Z B ρ d ρ' ok e q => by
  unfold fVar at e
  split at e
  · rename_i d' h1
    cases e
    obtain ⟨v, h2, h3⟩ := ok.sh i d h1
    exact ⟨v, h2, q B H v (Same.refl B) ok h3⟩
  · rename_i xs h1
    cases e
    obtain ⟨a, vs, h2, h3, h4, h5, h6, ok2⟩ := ok.share h1
    have sb : Same B (upd B a (.lst vs)) := same_upd_new h4
    exact ⟨.ref a, h2, q _ H _ sb ok2 (.lst upd_same (h6.mono sb))⟩
  · cases e
theorem de_c {v : V} {d : PyData} (p : PE X e (tC v)) (hd : ∀ B, Dr B v d) : DE X e (fC d) := de_of p fun σ H Q Z B ρ d' ρ' ok e q => by
  cases e
  exact q B H v (Same.refl B) ok (hd B)
theorem de_int {i j} : DE X (.Constant (.int i) j pos) (fC (.int i)) := de_c pe_int fun _ => .int i
theorem de_bl {i j} : DE X (.Constant (.bool i) j pos) (fC (.bool i)) := de_c pe_bl fun _ => .bl i
theorem de_non {j} : DE X (.Constant .none j pos) (fC .none) := de_c pe_non fun _ => .non
theorem de_str {i j} : DE X (.Constant (.str i) j pos) (fC (.str i)) := de_c pe_str fun _ => .str i
theorem de_gint {x : Str} {i : Int} (hm : ∃ t, X.mg x = some (.int i t)) (hg : Gl X x := by rfl) (hd : (x == ("__debug__" : Str)) = false := by decide) : DE X (.Name x pos) (fC (.int i)) := by
  obtain ⟨t, hm⟩ := hm
  exact de_c (v := .int i) (pe_glob hg hm ⟨t, rfl⟩ hd) fun _ => .int i

/-! ### argument lists -/
def fNil : FA := fun ρ => some ([], ρ)
def fCons (f : FE) (g : FA) : FA := fun ρ => (f ρ).bind fun p => (g p.2).map fun q => (p.1 :: q.1, q.2)
theorem da_nil : DA X [] fNil := pa_imp pa_nil fun σ H Q ⟨Z, B, ρ, ds, ρ', ok, e, q⟩ => by
  cases e
  exact q B H [] (Same.refl B) ok .nil
theorem da_cons {g : FA} (ha : DE X e f) (hr : DA X es g) (hs : starEach (e :: es) X.env = (false, eval e X.env) :: starEach es X.env := by rfl) : DA X (e :: es) (fCons f g) := pa_imp (pa_cons ha hr hs) fun σ H Q ⟨Z, B, ρ, ds, ρ', ok, e, q⟩ => by
  unfold fCons at e
  obtain ⟨⟨d, ρ1⟩, e1, e2⟩ := Option.bind_eq_some_iff.mp e
  obtain ⟨⟨ds', ρ2⟩, e3, e4⟩ := Option.map_eq_some_iff.mp e2
  cases e4
  exact ⟨Z, B, ρ, d, ρ1, ok, e1, fun B1 H1 v s1 ok1 dv => ⟨Z, B1, ρ1, ds', ρ2, ok1, e3, fun B2 H2 vs s2 ok2 dvs => q B2 H2 (v :: vs) (s1.trans s2) ok2 (.cons (dv.mono s2) dvs)⟩⟩

/-! ### operators by values -/
/-- what an operation on values gives, told by data -/
def OpD (r : R2) (h : PyData → PyData → Option PyData) : Prop := ∀ (Z : Zn) (B : Hp) (σ : L2.St) (H : Hp) (ρ : En) (x y : V) (d e z : PyData), EnvOk Z B σ H ρ → Dr B x d → Dr B y e → h d e = some z →
  ∀ Q : VK, (∀ B' H' v, Same B B' → EnvOk Z B' σ H' ρ → Dr B' v z → Q v H') → r x y H Q
def fBin (h : PyData → PyData → Option PyData) (f g : FE) : FE := fun ρ => (f ρ).bind fun p => (g p.2).bind fun q => (h p.1 q.1).map fun z => (z, q.2)
theorem tOp_of {r : R2} {hh : PyData → PyData → Option PyData} (hr : OpD r hh) : ∀ σ H Q, tE (fBin hh f g) σ H Q → tOp r (tE f) (tE g) σ H Q := fun σ H Q ⟨Z, B, ρ, d, ρ', ok, e, q⟩ => by
  unfold fBin at e
  obtain ⟨⟨d1, ρ1⟩, e1, e2⟩ := Option.bind_eq_some_iff.mp e
  obtain ⟨⟨d2, ρ2⟩, e3, e4⟩ := Option.bind_eq_some_iff.mp e2
  obtain ⟨z, e5, e6⟩ := Option.map_eq_some_iff.mp e4
  cases e6
  exact ⟨Z, B, ρ, d1, ρ1, ok, e1, fun B1 H1 x s1 ok1 dx => ⟨Z, B1, ρ1, d2, _, ok1, e3, fun B2 H2 y s2 ok2 dy => hr Z B2 σ H2 _ x y d1 d2 _ ok2 (dx.mono s2) dy e5 Q fun B3 H3 v s3 ok3 dv => q B3 H3 v (s1.trans (s2.trans s3)) ok3 dv⟩⟩
theorem de_op {op : Operator} {r : R2} {hh : PyData → PyData → Option PyData} (ho : OpR X (binaryOp op) r) (hr : OpD r hh) (ha : DE X a f) (hb : DE X b g) : DE X (.BinOp a op b pos) (fBin hh f g) := pe_imp (pe_op ho ha hb) (tOp_of hr)
theorem de_cmpR {op : CmpOp} {r : R2} {hh : PyData → PyData → Option PyData} (ho : OpR X (compareOp op) r) (hr : OpD r hh) (ha : DE X a f) (hb : DE X b g) (hm : behindInMarks op b = false) : DE X (.Compare a [op] [b] pos) (fBin hh f g) := pe_imp (pe_cmpR ho ha hb hm) (tOp_of hr)
/-- a test out of a value -/
def blD : PyData → Option Bool
  | .bool b => some b
  | _ => none
def fB (f : FE) : FT := fun ρ => (f ρ).bind fun p => (blD p.1).map fun b => (b, p.2)
theorem tB_of {t : TE} (i : ∀ σ H Q, tE f σ H Q → t σ H Q) : ∀ σ H Q, tT (fB f) σ H Q → (fun σ H Q => t σ H fun x H1 => ∃ c, x = V.bl c ∧ Q c H1 : TT) σ H Q := fun σ H Q ⟨Z, B, ρ, b, ρ', ok, e, q⟩ => by
  unfold fB at e
  obtain ⟨⟨d, ρ1⟩, e1, e2⟩ := Option.bind_eq_some_iff.mp e
  obtain ⟨b', e3, e4⟩ := Option.map_eq_some_iff.mp e2
  cases e4
  refine i σ H _ ⟨Z, B, ρ, d, _, ok, e1, fun B' H' v s1 ok1 dv => ?_⟩
  cases d with
  | bool c =>
    cases e3
    cases dv
    exact ⟨b, rfl, q B' H' s1 ok1⟩
  | _ => cases e3
theorem dt_cmpR {op : CmpOp} {r : R2} {hh : PyData → PyData → Option PyData} (ho : OpR X (compareOp op) r) (hr : OpD r hh) (ha : DE X a f) (hb : DE X b g) (hm : behindInMarks op b = false) : DT X (.Compare a [op] [b] pos) (fB (fBin hh f g)) :=
  pt_imp (pt_cmpR ho ha hb hm) (tB_of (tOp_of hr))
theorem dt_val (he : DE X e f) (hw : ∀ whole, isTrue e X.env whole = (do let v ← whole; standAt e.pos; holding [v] (truthy v)) := by intro _; rfl) : DT X e (fB f) := pt_imp (pt_val he hw) (tB_of fun _ _ _ q => q)
/-- a chain of two comparisons -/
def fChain (h1 h2 : PyData → PyData → Option PyData) (f g k : FE) : FE := fun ρ => (f ρ).bind fun p => (g p.2).bind fun q => (h1 p.1 q.1).bind fun z => match z with
  | .bool true => (k q.2).bind fun r => (h2 q.1 r.1).map fun w => (w, r.2)
  | .bool false => some (.bool false, q.2)
  | _ => none
theorem tChain_of {r r' : R2} {h1 h2 : PyData → PyData → Option PyData} (hr : OpD r h1) (hr' : OpD r' h2) : ∀ σ H Q, tE (fChain h1 h2 f g h) σ H Q → tChain r r' (tE f) (tE g) (tE h) σ H Q := fun σ H Q ⟨Z, B, ρ, d, ρ', ok, e, q⟩ => by
  unfold fChain at e
  obtain ⟨⟨d1, ρ1⟩, e1, e2⟩ := Option.bind_eq_some_iff.mp e
  obtain ⟨⟨d2, ρ2⟩, e3, e4⟩ := Option.bind_eq_some_iff.mp e2
  obtain ⟨z, e5, e6⟩ := Option.bind_eq_some_iff.mp e4
  refine ⟨Z, B, ρ, d1, ρ1, ok, e1, fun B1 H1 x s1 ok1 dx => ⟨Z, B1, ρ1, d2, _, ok1, e3, fun B2 H2 y s2 ok2 dy => hr Z B2 σ H2 _ x y d1 d2 _ ok2 (dx.mono s2) dy e5 _ fun B3 H3 v s3 ok3 dv => ?_⟩⟩
  cases z with
  | bool c =>
    cases dv
    refine ⟨c, rfl, ?_⟩
    cases c with
    | true =>
      rw [if_pos rfl]
      obtain ⟨⟨d3, ρ3⟩, e7, e8⟩ := Option.bind_eq_some_iff.mp e6
      obtain ⟨w, e9, e10⟩ := Option.map_eq_some_iff.mp e8
      cases e10
      exact ⟨Z, B3, ρ2, d3, _, ok3, e7, fun B4 H4 u s4 ok4 du => hr' Z B4 σ H4 _ y u d2 d3 _ ok4 (dy.mono (s3.trans s4)) du e9 Q fun B5 H5 v5 s5 ok5 dv5 => q B5 H5 v5 (s1.trans (s2.trans (s3.trans (s4.trans s5)))) ok5 dv5⟩
    | false =>
      rw [if_neg Bool.false_ne_true]
      cases e6
      exact q B3 H3 _ (s1.trans (s2.trans s3)) ok3 (.bl false)
  | _ => cases e6
theorem de_chain {op op' : CmpOp} {r r' : R2} {h1 h2 : PyData → PyData → Option PyData} (ho : OpR X (compareOp op) r) (hr : OpD r h1) (ho' : OpR X (compareOp op') r') (hr' : OpD r' h2) (ha : DE X a f) (hb : DE X b g) (hc : DE X c h)
    (hm : lastMarks [op, op'] [b, c] = false := by with_unfolding_all rfl) : DE X (.Compare a [op, op'] [b, c] pos) (fChain h1 h2 f g h) := pe_imp (pe_chain ho ho' ha hb hc hm) (tChain_of hr hr')
theorem dt_chain {op op' : CmpOp} {r r' : R2} {h1 h2 : PyData → PyData → Option PyData} (ho : OpR X (compareOp op) r) (hr : OpD r h1) (ho' : OpR X (compareOp op') r') (hr' : OpD r' h2) (ha : DE X a f) (hb : DE X b g) (hc : DE X c h)
    (hm : lastMarks [op, op'] [b, c] = false := by with_unfolding_all rfl) : DT X (.Compare a [op, op'] [b, c] pos) (fB (fChain h1 h2 f g h)) := pt_imp (pt_chain ho ho' ha hb hc hm) (tB_of (tChain_of hr hr'))
/-- one place -/
def fUn (h : PyData → Option PyData) (f : FE) : FE := fun ρ => (f ρ).bind fun p => (h p.1).map fun z => (z, p.2)
def hNeg : PyData → Option PyData
  | .int i => some (.int (-i))
  | _ => none
theorem de_neg (ha : DE X a f) : DE X (.UnaryOp .USub a pos) (fUn hNeg f) := pe_imp (pe_un un_neg ha) fun σ H Q ⟨Z, B, ρ, d, ρ', ok, e, q⟩ => by
  unfold fUn at e
  obtain ⟨⟨d1, ρ1⟩, e1, e2⟩ := Option.bind_eq_some_iff.mp e
  obtain ⟨z, e3, e4⟩ := Option.map_eq_some_iff.mp e2
  cases e4
  refine ⟨Z, B, ρ, d1, ρ1, ok, e1, fun B1 H1 x s1 ok1 dx => ?_⟩
  cases d1 with
  | int i =>
    cases e3
    cases dx
    exact ⟨i, rfl, q B1 H1 _ s1 ok1 (.int _)⟩
  | _ => cases e3

/-! ### and, or, not, if -/
def fAndT (f g : FT) : FT := fun ρ => (f ρ).bind fun p => if p.1 = true then g p.2 else some (false, p.2)
def fOrT (f g : FT) : FT := fun ρ => (f ρ).bind fun p => if p.1 = true then some (true, p.2) else g p.2
def fNotT (f : FT) : FT := fun ρ => (f ρ).map fun p => (!p.1, p.2)
variable {u v : FT} {rest : List Expr}
theorem dw_and1 (ha : DT X a u) : DW X (.BoolOp .And [a] pos) u := pw_and1 ha
theorem dw_or1 (ha : DT X a u) : DW X (.BoolOp .Or [a] pos) u := pw_or1 ha
theorem dw_and (ha : DT X a u) (hb : DW X (.BoolOp .And (b :: rest) pos) v) : DW X (.BoolOp .And (a :: b :: rest) pos) (fAndT u v) := pw_imp (pw_and ha hb) fun σ H Q ⟨Z, B, ρ, d, ρ', ok, e, q⟩ => by
  unfold fAndT at e
  obtain ⟨⟨c, ρ1⟩, e1, e2⟩ := Option.bind_eq_some_iff.mp e
  refine ⟨Z, B, ρ, c, ρ1, ok, e1, fun B1 H1 s1 ok1 => ?_⟩
  cases c with
  | true =>
    rw [if_pos rfl] at e2 ⊢
    exact ⟨Z, B1, ρ1, d, ρ', ok1, e2, fun B2 H2 s2 ok2 => q B2 H2 (s1.trans s2) ok2⟩
  | false =>
    rw [if_neg Bool.false_ne_true] at e2 ⊢
    cases e2
    exact q B1 H1 s1 ok1
theorem dw_or (ha : DT X a u) (hb : DW X (.BoolOp .Or (b :: rest) pos) v) : DW X (.BoolOp .Or (a :: b :: rest) pos) (fOrT u v) := pw_imp (pw_or ha hb) fun σ H Q ⟨Z, B, ρ, d, ρ', ok, e, q⟩ => by
  unfold fOrT at e
  obtain ⟨⟨c, ρ1⟩, e1, e2⟩ := Option.bind_eq_some_iff.mp e
  refine ⟨Z, B, ρ, c, ρ1, ok, e1, fun B1 H1 s1 ok1 => ?_⟩
  cases c with
  | false =>
    rw [if_neg Bool.false_ne_true] at e2 ⊢
    exact ⟨Z, B1, ρ1, d, ρ', ok1, e2, fun B2 H2 s2 ok2 => q B2 H2 (s1.trans s2) ok2⟩
  | true =>
    rw [if_pos rfl] at e2 ⊢
    cases e2
    exact q B1 H1 s1 ok1
theorem dt_w (h : DW X e u) : DT X e u := h.pt
theorem dt_not (ha : DT X a u) : DT X (.UnaryOp .Not a pos) (fNotT u) := pt_imp (pt_not ha) fun σ H Q ⟨Z, B, ρ, d, ρ', ok, e, q⟩ => by
  unfold fNotT at e
  obtain ⟨⟨c, ρ1⟩, e1, e2⟩ := Option.map_eq_some_iff.mp e
  cases e2
  exact ⟨Z, B, ρ, c, _, ok, e1, fun B1 H1 s1 ok1 => q B1 H1 s1 ok1⟩
def fAndV (f g : FE) : FE := fun ρ => (f ρ).bind fun p => match p.1 with
  | .bool true => g p.2
  | .bool false => some (.bool false, p.2)
  | _ => none
def fOrV (f g : FE) : FE := fun ρ => (f ρ).bind fun p => match p.1 with
  | .bool false => g p.2
  | .bool true => some (.bool true, p.2)
  | _ => none
def hNot : PyData → Option PyData
  | .bool b => some (.bool (!b))
  | _ => none
theorem de_one {op} (h : DE X a f) : DE X (.BoolOp op [a] pos) f := pe_one h
theorem de_and (ha : DE X a f) (hb : DE X (.BoolOp .And (b :: rest) pos) g) : DE X (.BoolOp .And (a :: b :: rest) pos) (fAndV f g) := pe_imp (pe_and ha hb) fun σ H Q ⟨Z, B, ρ, d, ρ', ok, e, q⟩ => by
  unfold fAndV at e
  obtain ⟨⟨c, ρ1⟩, e1, e2⟩ := Option.bind_eq_some_iff.mp e
  refine ⟨Z, B, ρ, c, ρ1, ok, e1, fun B1 H1 x s1 ok1 dx => ?_⟩
  split at e2
  · rename_i h1
    cases h1
    cases dx
    exact ⟨true, rfl, by rw [if_pos rfl]; exact ⟨Z, B1, ρ1, d, ρ', ok1, e2, fun B2 H2 v s2 ok2 dv => q B2 H2 v (s1.trans s2) ok2 dv⟩⟩
  · rename_i h1
    cases h1
    cases dx
    cases e2
    exact ⟨false, rfl, by rw [if_neg Bool.false_ne_true]; exact q B1 H1 _ s1 ok1 (.bl false)⟩
  · cases e2
theorem de_or (ha : DE X a f) (hb : DE X (.BoolOp .Or (b :: rest) pos) g) : DE X (.BoolOp .Or (a :: b :: rest) pos) (fOrV f g) := pe_imp (pe_or ha hb) fun σ H Q ⟨Z, B, ρ, d, ρ', ok, e, q⟩ => by
  unfold fOrV at e
  obtain ⟨⟨c, ρ1⟩, e1, e2⟩ := Option.bind_eq_some_iff.mp e
  refine ⟨Z, B, ρ, c, ρ1, ok, e1, fun B1 H1 x s1 ok1 dx => ?_⟩
  split at e2
  · rename_i h1
    cases h1
    cases dx
    exact ⟨false, rfl, by rw [if_neg Bool.false_ne_true]; exact ⟨Z, B1, ρ1, d, ρ', ok1, e2, fun B2 H2 v s2 ok2 dv => q B2 H2 v (s1.trans s2) ok2 dv⟩⟩
  · rename_i h1
    cases h1
    cases dx
    cases e2
    exact ⟨true, rfl, by rw [if_pos rfl]; exact q B1 H1 _ s1 ok1 (.bl true)⟩
  · cases e2
theorem de_not (ha : DE X a f) : DE X (.UnaryOp .Not a pos) (fUn hNot f) := pe_imp (pe_not ha) fun σ H Q ⟨Z, B, ρ, d, ρ', ok, e, q⟩ => by
  unfold fUn at e
  obtain ⟨⟨d1, ρ1⟩, e1, e2⟩ := Option.bind_eq_some_iff.mp e
  obtain ⟨z, e3, e4⟩ := Option.map_eq_some_iff.mp e2
  cases e4
  refine ⟨Z, B, ρ, d1, ρ1, ok, e1, fun B1 H1 x s1 ok1 dx => ?_⟩
  cases d1 with
  | bool i =>
    cases e3
    cases dx
    exact ⟨i, rfl, q B1 H1 _ s1 ok1 (.bl _)⟩
  | _ => cases e3
def fIfE (c : FT) (f g : FE) : FE := fun ρ => (c ρ).bind fun p => if p.1 = true then f p.2 else g p.2
theorem de_if {c : Expr} (hc : DT X c u) (ha : DE X a f) (hb : DE X b g) : DE X (.IfExp c a b pos) (fIfE u f g) := pe_imp (pe_ifExp hc ha hb) fun σ H Q ⟨Z, B, ρ, d, ρ', ok, e, q⟩ => by
  unfold fIfE at e
  obtain ⟨⟨c, ρ1⟩, e1, e2⟩ := Option.bind_eq_some_iff.mp e
  refine ⟨Z, B, ρ, c, ρ1, ok, e1, fun B1 H1 s1 ok1 => ?_⟩
  cases c with
  | true =>
    rw [if_pos rfl] at e2 ⊢
    exact ⟨Z, B1, ρ1, d, ρ', ok1, e2, fun B2 H2 v s2 ok2 dv => q B2 H2 v (s1.trans s2) ok2 dv⟩
  | false =>
    rw [if_neg Bool.false_ne_true] at e2 ⊢
    exact ⟨Z, B1, ρ1, d, ρ', ok1, e2, fun B2 H2 v s2 ok2 dv => q B2 H2 v (s1.trans s2) ok2 dv⟩

/-! ### displays -/
def fTup (f : FA) : FE := fun ρ => (f ρ).bind fun p => if p.1.length ≤ 16777216 then some (.tuple p.1, p.2) else none
def fLst (f : FA) : FR := fun ρ => (f ρ).bind fun p => if p.1.length ≤ 16777216 then some (.ow p.1, p.2) else none
theorem lay_tup {Z : Zn} {B : Hp} {σ : L2.St} {H : Hp} {ρ : En} {vs : List V} {ds : List PyData} {p : Addr} (ok : EnvOk Z B σ H ρ) (dv : DrAll B vs ds) (hp : H p = none) :
    Same B (upd B p (.tup vs)) ∧ EnvOk Z (upd B p (.tup vs)) σ (upd H p (.tup vs)) ρ ∧ Dr (upd B p (.tup vs)) (.ref p) (.tuple ds) := by
  have sb : Same B (upd B p (.tup vs)) := same_upd_new (ok.le.free hp)
  exact ⟨sb, ok.laid hp, .tup upd_same (dv.mono sb)⟩
theorem lay_lst {Z : Zn} {B : Hp} {σ : L2.St} {H : Hp} {ρ : En} {vs : List V} {ds : List PyData} {p : Addr} (ok : EnvOk Z B σ H ρ) (dv : DrAll B vs ds) (hp : H p = none) :
    Same B (upd B p (.lst vs)) ∧ EnvOk Z (upd B p (.lst vs)) σ (upd H p (.lst vs)) ρ ∧ Dr (upd B p (.lst vs)) (.ref p) (.list ds) := by
  have sb : Same B (upd B p (.lst vs)) := same_upd_new (ok.le.free hp)
  exact ⟨sb, ok.laid hp, .lst upd_same (dv.mono sb)⟩
theorem own_lst {Z : Zn} {B : Hp} {σ : L2.St} {H : Hp} {ρ : En} {vs : List V} {ds : List PyData} {p : Addr} (ok : EnvOk Z B σ H ρ) (dv : DrAll B vs ds) (hp : H p = none) :
    EnvOk Z B σ (upd H p (.lst vs)) ρ ∧ RepR Z B (upd H p (.lst vs)) (NotOwn σ ρ) (.ref p) (.ow ds) :=
  ⟨ok.junk hp, .inr ⟨p, _, rfl, upd_same, ok.le.free hp, ok.lz.free hp, NotOwn.new ok hp, dv, rfl⟩⟩
theorem de_tup {k : FA} {x1} (ha : DA X es k) : DE X (.Tuple es x1 pos) (fTup k) := pe_imp (pe_tup ha) fun σ H Q ⟨Z, B, ρ, d, ρ', ok, e, q⟩ => by
  unfold fTup at e
  obtain ⟨⟨ds, ρ1⟩, e1, e2⟩ := Option.bind_eq_some_iff.mp e
  split at e2
  · rename_i hl
    cases e2
    refine ⟨Z, B, ρ, ds, _, ok, e1, fun B1 H1 vs s1 ok1 dv => ⟨by rw [dv.length]; exact hl, fun p hp => ?_⟩⟩
    obtain ⟨s2, ok2, d2⟩ := lay_tup ok1 dv hp
    exact q _ _ _ (s1.trans s2) ok2 d2
  · cases e2
theorem dr_lst {k : FA} (ha : DA X es k) : DR X (.List es pos) (fLst k) := pe_imp (pe_lst ha) fun σ H Q ⟨Z, B, ρ, s, ρ', ok, e, q⟩ => by
  unfold fLst at e
  obtain ⟨⟨ds, ρ1⟩, e1, e2⟩ := Option.bind_eq_some_iff.mp e
  split at e2
  · rename_i hl
    cases e2
    refine ⟨Z, B, ρ, ds, _, ok, e1, fun B1 H1 vs s1 ok1 dv => ⟨by rw [dv.length]; exact hl, fun p hp => ?_⟩⟩
    obtain ⟨ok2, d2⟩ := own_lst ok1 dv hp
    exact q _ _ _ s1 ok2 d2
  · cases e2
end

/-! GOps: operators, subscripts, built-in functions by data. -/

def intsO : List PyData → Option (List Int)
  | [] => some []
  | .int i :: ds => (intsO ds).map (i :: ·)
  | _ => none
def boolsO : List PyData → Option (List Bool)
  | [] => some []
  | .bool i :: ds => (boolsO ds).map (i :: ·)
  | _ => none
theorem intsO_eq : ∀ {ds : List PyData} {ns : List Int}, intsO ds = some ns → ds = ns.map PyData.int
  | [], ns, h => by cases h; rfl
  | d :: ds, ns, h => by
    cases d with
    | int i =>
      obtain ⟨ms, h1, h2⟩ := Option.map_eq_some_iff.mp (show (intsO ds).map (i :: ·) = some ns from h)
      subst h2
      rw [intsO_eq h1]
      rfl
    | _ => cases h
theorem boolsO_eq : ∀ {ds : List PyData} {ns : List Bool}, boolsO ds = some ns → ds = ns.map PyData.bool
  | [], ns, h => by cases h; rfl
  | d :: ds, ns, h => by
    cases d with
    | bool i =>
      obtain ⟨ms, h1, h2⟩ := Option.map_eq_some_iff.mp (show (boolsO ds).map (i :: ·) = some ns from h)
      subst h2
      rw [boolsO_eq h1]
      rfl
    | _ => cases h
theorem intsO_map (ns : List Int) : intsO (ns.map PyData.int) = some ns := by
  induction ns with
  | nil => rfl
  | cons n ns ih =>
    show (intsO (ns.map PyData.int)).map (n :: ·) = some (n :: ns)
    rw [ih]
    rfl
theorem boolsO_map (ns : List Bool) : boolsO (ns.map PyData.bool) = some ns := by
  induction ns with
  | nil => rfl
  | cons n ns ih =>
    show (boolsO (ns.map PyData.bool)).map (n :: ·) = some (n :: ns)
    rw [ih]
    rfl

/-! ### arithmetic -/
def hAdd : PyData → PyData → Option PyData
  | .int i, .int j => some (.int (i + j))
  | .list xs, .list ys => if xs.length + ys.length ≤ 16777216 then some (.list (xs ++ ys)) else none
  | .tuple xs, .tuple ys => if xs.length + ys.length ≤ 16777216 then some (.tuple (xs ++ ys)) else none
  | _, _ => none
def hSub : PyData → PyData → Option PyData
  | .int i, .int j => some (.int (i - j))
  | _, _ => none
def hMul : PyData → PyData → Option PyData
  | .int i, .int j => if (-18446744073709551616 < i ∧ i < 18446744073709551616) ∨ (-18446744073709551616 < j ∧ j < 18446744073709551616) then some (.int (i * j)) else none
  | .list xs, .int k => if -9223372036854775808 ≤ k ∧ k < 9223372036854775808 ∧ xs.length * k.toNat ≤ 16777216 then some (.list (List.replicate k.toNat xs).flatten) else none
  | .tuple xs, .int k => if xs ≠ [] ∧ 2 ≤ k ∧ k ≤ 1000 ∧ xs.length ≤ 1000 then some (.tuple (List.replicate k.toNat xs).flatten) else none
  | _, _ => none
def hMod : PyData → PyData → Option PyData
  | .int i, .int j => if 0 < j then some (.int (i % j)) else none
  | _, _ => none
def hDiv : PyData → PyData → Option PyData
  | .int i, .int j => if 0 < j ∧ j < 18446744073709551616 then some (.int (i / j)) else none
  | _, _ => none
def hPow : PyData → PyData → Option PyData
  | .int i, .int j => if 0 ≤ j ∧ j ≤ 1000000 ∧ -18446744073709551616 < i ∧ i < 18446744073709551616 then some (.int (i ^ j.toNat)) else none
  | _, _ => none
def hShl : PyData → PyData → Option PyData
  | .int i, .int j => if 0 ≤ j ∧ j ≤ 1000000 ∧ -18446744073709551616 < i ∧ i < 18446744073709551616 then some (.int (i * 2 ^ j.toNat)) else none
  | _, _ => none
def hShr : PyData → PyData → Option PyData
  | .int i, .int j => if 0 ≤ j then some (.int (i / 2 ^ j.toNat)) else none
  | _, _ => none
def hAnd : PyData → PyData → Option PyData
  | .int i, .int j => some (.int (Builtin.bitAnd i j))
  | _, _ => none
theorem drAll_rep {B : Hp} {vs : List V} {ds : List PyData} (h : DrAll B vs ds) : ∀ n : Nat, DrAll B (List.replicate n vs).flatten (List.replicate n ds).flatten
  | 0 => .nil
  | n + 1 => by
    rw [List.replicate_succ, List.replicate_succ, List.flatten_cons, List.flatten_cons]
    exact h.app (drAll_rep h n)
theorem drAll_nil {B : Hp} {vs : List V} {ds : List PyData} (h : DrAll B vs ds) : vs = [] ↔ ds = [] := by
  cases h with
  | nil => exact ⟨fun _ => rfl, fun _ => rfl⟩
  | cons _ _ => exact ⟨fun z => (nomatch z), fun z => (nomatch z)⟩
theorem p64 : (2 : Int) ^ 64 = 18446744073709551616 := by decide
theorem p63 : (2 : Int) ^ 63 = 9223372036854775808 := by decide
theorem opd_int {C : Int → Int → Prop} {g : Int → Int → Int} {h : PyData → PyData → Option PyData} (hh : ∀ d e z, h d e = some z → ∃ i j, d = .int i ∧ e = .int j ∧ C i j ∧ z = .int (g i j)) : OpD (rI C fun i j => .int (g i j)) h := fun Z B σ H ρ x y d e z ok dx dy hz Q q => by
  obtain ⟨i, j, rfl, rfl, hc, rfl⟩ := hh d e z hz
  cases dx
  cases dy
  exact ⟨i, j, rfl, rfl, hc, q B H _ (Same.refl B) ok (.int _)⟩
theorem opd_int0 {g : Int → Int → Int} {h : PyData → PyData → Option PyData} (hh : ∀ d e z, h d e = some z → ∃ i j, d = .int i ∧ e = .int j ∧ z = .int (g i j)) : OpD (rI0 fun i j => .int (g i j)) h := fun Z B σ H ρ x y d e z ok dx dy hz Q q => by
  obtain ⟨i, j, rfl, rfl, rfl⟩ := hh d e z hz
  cases dx
  cases dy
  exact ⟨i, j, rfl, rfl, q B H _ (Same.refl B) ok (.int _)⟩
theorem nt_lt {i : Int} (h : -18446744073709551616 < i ∧ i < 18446744073709551616) : i.natAbs < 2 ^ 64 := by
  have e : (2 : Nat) ^ 64 = 18446744073709551616 := by decide
  rw [e]
  omega
section
variable {X : Cx} {a b c e : Expr} {es : List Expr} {f g h : FE} {pos : Pos} {k : Nat}
theorem opd_add {K : PySem.W.Frag} : OpD (fun x y H Q => (rI0 fun i j => .int (i + j)) x y H Q ∨ rCat x y H Q ∨ rCatA K x y H Q) hAdd := fun Z B σ H ρ x y d e z ok dx dy hz Q q => by
  unfold hAdd at hz
  split at hz
  · cases hz
    cases dx
    cases dy
    exact .inl ⟨_, _, rfl, rfl, q B H _ (Same.refl B) ok (.int _)⟩
  · split at hz
    · rename_i hl
      cases hz
      cases dx with
      | lst h1 h2 =>
        cases dy with
        | lst h3 h4 =>
          refine .inr (.inl ⟨_, _, _, _, rfl, rfl, ok.le _ _ h1, ok.le _ _ h3, by rw [h2.length, h4.length]; exact hl, fun p hp => ?_⟩)
          obtain ⟨s2, ok2, d2⟩ := lay_lst ok (h2.app h4) hp
          exact q _ _ _ s2 ok2 d2
    · cases hz
  · split at hz
    · rename_i hl
      cases hz
      cases dx with
      | tup h1 h2 =>
        cases dy with
        | tup h3 h4 =>
          refine .inr (.inr ⟨_, _, _, _, rfl, rfl, SqT.of (ok.le _ _ h1), SqT.of (ok.le _ _ h3), by rw [h2.length, h4.length]; exact hl, fun e => ?_, fun e1 e2 => ?_, fun e1 e2 p hp => ?_⟩)
          · rw [(drAll_nil h2).mp e, List.nil_append] at q
            exact q B H _ (Same.refl B) ok (.tup h3 h4)
          · rw [(drAll_nil h4).mp e2, List.append_nil] at q
            exact q B H _ (Same.refl B) ok (.tup h1 h2)
          · obtain ⟨s2, ok2, d2⟩ := lay_tup ok (h2.app h4) hp
            exact q _ _ _ s2 ok2 d2
    · cases hz
  · cases hz
theorem de_add (ha : DE X a f) (hb : DE X b g) : DE X (.BinOp a .Add b pos) (fBin hAdd f g) := de_op (OpR.or op_add (OpR.or op_cat op_catA)) opd_add ha hb
theorem de_sub (ha : DE X a f) (hb : DE X b g) : DE X (.BinOp a .Sub b pos) (fBin hSub f g) := de_op op_sub (opd_int0 fun d e z hz => by
  unfold hSub at hz
  split at hz
  · cases hz
    exact ⟨_, _, rfl, rfl, rfl⟩
  · cases hz) ha hb
theorem opd_mul {K : PySem.W.Frag} : OpD (fun x y H Q => (rI CMul fun i j => .int (i * j)) x y H Q ∨ rRep x y H Q ∨ rRepT K x y H Q) hMul := fun Z B σ H ρ x y d e z ok dx dy hz Q q => by
  unfold hMul at hz
  split at hz
  · split at hz
    · rename_i hl
      cases hz
      cases dx
      cases dy
      refine .inl ⟨_, _, rfl, rfl, ?_, q B H _ (Same.refl B) ok (.int _)⟩
      unfold CMul
      rw [p64]
      exact hl
    · cases hz
  · split at hz
    · rename_i hl
      cases hz
      cases dx with
      | lst h1 h2 =>
        cases dy
        refine .inr (.inl ⟨_, _, _, rfl, rfl, ok.le _ _ h1, by rw [p63]; exact hl.1, by rw [p63]; exact hl.2.1, by rw [h2.length]; exact hl.2.2, fun p hp => ?_⟩)
        obtain ⟨s2, ok2, d2⟩ := lay_lst ok (drAll_rep h2 _) hp
        exact q _ _ _ s2 ok2 d2
    · cases hz
  · split at hz
    · rename_i hl
      cases hz
      cases dx with
      | tup h1 h2 =>
        cases dy
        refine .inr (.inr ⟨_, _, _, rfl, rfl, SqT.of (ok.le _ _ h1), fun z => hl.1 ((drAll_nil h2).mp z), hl.2.1, hl.2.2.1, by rw [h2.length]; exact hl.2.2.2, fun p hp => ?_⟩)
        obtain ⟨s2, ok2, d2⟩ := lay_tup ok (drAll_rep h2 _) hp
        exact q _ _ _ s2 ok2 d2
    · cases hz
  · cases hz
theorem de_mul (ha : DE X a f) (hb : DE X b g) : DE X (.BinOp a .Mult b pos) (fBin hMul f g) := de_op (OpR.or op_mul (OpR.or op_rep op_repT)) opd_mul ha hb
theorem de_mod (ha : DE X a f) (hb : DE X b g) : DE X (.BinOp a .Mod b pos) (fBin hMod f g) := de_op op_mod (opd_int fun d e z hz => by
  unfold hMod at hz
  split at hz
  · split at hz
    · rename_i hl
      cases hz
      exact ⟨_, _, rfl, rfl, hl, rfl⟩
    · cases hz
  · cases hz) ha hb
theorem de_div (ha : DE X a f) (hb : DE X b g) : DE X (.BinOp a .FloorDiv b pos) (fBin hDiv f g) := de_op op_fdivW (opd_int fun d e z hz => by
  unfold hDiv at hz
  split at hz
  · split at hz
    · rename_i hl
      cases hz
      exact ⟨_, _, rfl, rfl, wide_div hl.1 (nt_lt ⟨by omega, hl.2⟩) (by decide) (by decide), rfl⟩
    · cases hz
  · cases hz) ha hb
theorem de_pow (ha : DE X a f) (hb : DE X b g) : DE X (.BinOp a .Pow b pos) (fBin hPow f g) := de_op op_pow (opd_int fun d e z hz => by
  unfold hPow at hz
  split at hz
  · split at hz
    · rename_i hl
      cases hz
      exact ⟨_, _, rfl, rfl, ⟨hl.1, hl.2.1, nt_lt hl.2.2⟩, rfl⟩
    · cases hz
  · cases hz) ha hb
theorem de_shl (ha : DE X a f) (hb : DE X b g) : DE X (.BinOp a .LShift b pos) (fBin hShl f g) := de_op op_shl (opd_int fun d e z hz => by
  unfold hShl at hz
  split at hz
  · split at hz
    · rename_i hl
      cases hz
      exact ⟨_, _, rfl, rfl, ⟨hl.1, hl.2.1, nt_lt hl.2.2⟩, rfl⟩
    · cases hz
  · cases hz) ha hb
theorem de_shr (ha : DE X a f) (hb : DE X b g) : DE X (.BinOp a .RShift b pos) (fBin hShr f g) := de_op op_shr (opd_int fun d e z hz => by
  unfold hShr at hz
  split at hz
  · split at hz
    · rename_i hl
      cases hz
      exact ⟨_, _, rfl, rfl, hl, rfl⟩
    · cases hz
  · cases hz) ha hb
theorem de_band (ha : DE X a f) (hb : DE X b g) : DE X (.BinOp a .BitAnd b pos) (fBin hAnd f g) := de_op op_and (opd_int0 fun d e z hz => by
  unfold hAnd at hz
  split at hz
  · cases hz
    exact ⟨_, _, rfl, rfl, rfl⟩
  · cases hz) ha hb

/-! ### comparisons -/
def hLt : PyData → PyData → Option PyData
  | .int i, .int j => some (.bool (decide (i < j)))
  | .tuple xs, .tuple ys => (intsO xs).bind fun ns => (intsO ys).map fun ms => .bool (HT.lexLt ns ms)
  | _, _ => none
def hLe : PyData → PyData → Option PyData
  | .int i, .int j => some (.bool (decide (i ≤ j)))
  | _, _ => none
def hGt : PyData → PyData → Option PyData
  | .int i, .int j => some (.bool (decide (j < i)))
  | _, _ => none
def hGe : PyData → PyData → Option PyData
  | .int i, .int j => some (.bool (decide (j ≤ i)))
  | _, _ => none
def hEq (d e : PyData) : Option PyData := if SeqAt.shaped d = true ∧ SeqAt.shaped e = true then some (.bool (PyData.eqv d e)) else none
def hNe (d e : PyData) : Option PyData := if SeqAt.shaped d = true ∧ SeqAt.shaped e = true then some (.bool (!PyData.eqv d e)) else none
/-- x in xs -/
def hIn (d : PyData) : PyData → Option PyData
  | .list ds => if SeqAt.shaped d = true ∧ SeqAt.shaped (.list ds) = true then some (.bool (ds.any fun z => PyData.eqv z d)) else none
  | _ => none
def hNotIn (d : PyData) : PyData → Option PyData
  | .list ds => if SeqAt.shaped d = true ∧ SeqAt.shaped (.list ds) = true then some (.bool (!ds.any fun z => PyData.eqv z d)) else none
  | _ => none
theorem opd_bool0 {g : Int → Int → Bool} {h : PyData → PyData → Option PyData} (hh : ∀ d e z, h d e = some z → ∃ i j, d = .int i ∧ e = .int j ∧ z = .bool (g i j)) : OpD (rI0 fun i j => .bl (g i j)) h := fun Z B σ H ρ x y d e z ok dx dy hz Q q => by
  obtain ⟨i, j, rfl, rfl, rfl⟩ := hh d e z hz
  cases dx
  cases dy
  exact ⟨i, j, rfl, rfl, q B H _ (Same.refl B) ok (.bl _)⟩
theorem opd_lt {K : PySem.W.Frag} : OpD (fun x y H Q => (rI0 fun i j => .bl (decide (i < j))) x y H Q ∨ rLtT K x y H Q) hLt := fun Z B σ H ρ x y d e z ok dx dy hz Q q => by
  unfold hLt at hz
  split at hz
  · cases hz
    cases dx
    cases dy
    exact .inl ⟨_, _, rfl, rfl, q B H _ (Same.refl B) ok (.bl _)⟩
  · obtain ⟨ns, h1, h2⟩ := Option.bind_eq_some_iff.mp hz
    obtain ⟨ms, h3, h4⟩ := Option.map_eq_some_iff.mp h2
    cases h4
    have e1 := intsO_eq h1
    have e2 := intsO_eq h3
    subst e1 e2
    cases dx with
    | tup g1 g2 =>
      cases dy with
      | tup g3 g4 =>
        have e3 := g2.ints_inv
        have e4 := g4.ints_inv
        subst e3 e4
        exact .inr ⟨_, _, ns, ms, rfl, rfl, SqT.of (ok.le _ _ g1), SqT.of (ok.le _ _ g3), q B H _ (Same.refl B) ok (.bl _)⟩
  · cases hz
theorem opd_le : OpD (rI0 fun i j => .bl (decide (i ≤ j))) hLe := opd_bool0 fun d e z hz => by
  unfold hLe at hz
  split at hz
  · cases hz
    exact ⟨_, _, rfl, rfl, rfl⟩
  · cases hz
theorem opd_gt : OpD (rI0 fun i j => .bl (decide (j < i))) hGt := opd_bool0 fun d e z hz => by
  unfold hGt at hz
  split at hz
  · cases hz
    exact ⟨_, _, rfl, rfl, rfl⟩
  · cases hz
theorem opd_ge : OpD (rI0 fun i j => .bl (decide (j ≤ i))) hGe := opd_bool0 fun d e z hz => by
  unfold hGe at hz
  split at hz
  · cases hz
    exact ⟨_, _, rfl, rfl, rfl⟩
  · cases hz
theorem opd_eq {K : PySem.W.Frag} : OpD (rEqD K) hEq := fun Z B σ H ρ x y d e z ok dx dy hz Q q => by
  unfold hEq at hz
  split at hz
  · rename_i h1
    cases hz
    exact ⟨d, e, dr_dp _ _ (dx.mono ok.le), dr_dp _ _ (dy.mono ok.le), h1.1, h1.2, q B H _ (Same.refl B) ok (.bl _)⟩
  · cases hz
theorem opd_ne {K : PySem.W.Frag} : OpD (rNeD K) hNe := fun Z B σ H ρ x y d e z ok dx dy hz Q q => by
  unfold hNe at hz
  split at hz
  · rename_i h1
    cases hz
    exact ⟨d, e, dr_dp _ _ (dx.mono ok.le), dr_dp _ _ (dy.mono ok.le), h1.1, h1.2, q B H _ (Same.refl B) ok (.bl _)⟩
  · cases hz
theorem opd_in {K : PySem.W.Frag} : OpD (rInD K) hIn := fun Z B σ H ρ x y d e z ok dx dy hz Q q => by
  unfold hIn at hz
  split at hz
  · split at hz
    · rename_i h1
      cases hz
      exact ⟨d, _, dr_dp _ _ (dx.mono ok.le), dr_dp _ _ (dy.mono ok.le), h1.1, h1.2, q B H _ (Same.refl B) ok (.bl _)⟩
    · cases hz
  · cases hz
theorem opd_notIn {K : PySem.W.Frag} : OpD (rNotInD K) hNotIn := fun Z B σ H ρ x y d e z ok dx dy hz Q q => by
  unfold hNotIn at hz
  split at hz
  · split at hz
    · rename_i h1
      cases hz
      exact ⟨d, _, dr_dp _ _ (dx.mono ok.le), dr_dp _ _ (dy.mono ok.le), h1.1, h1.2, q B H _ (Same.refl B) ok (.bl _)⟩
    · cases hz
  · cases hz
theorem u0 (hr : Room k X.A) : X.A.units < cLine := by have := hr.un; omega
theorem u64 (hr : Room k X.A) : X.A.units + 64 < cLine := by have := hr.un; omega
theorem u65 (hr : Room k X.A) : X.A.units + 65 < cLine := by have := hr.un; omega
theorem de_lt (hr : Room k X.A) (ha : DE X a f) (hb : DE X b g) : DE X (.Compare a [.Lt] [b] pos) (fBin hLt f g) := de_cmpR (OpR.or op_lt (op_ltT (u0 hr))) opd_lt ha hb (nomark _)
theorem de_le (hr : Room k X.A) (ha : DE X a f) (hb : DE X b g) : DE X (.Compare a [.LtE] [b] pos) (fBin hLe f g) := de_cmpR op_le opd_le ha hb (nomark _)
theorem de_gt (hr : Room k X.A) (ha : DE X a f) (hb : DE X b g) : DE X (.Compare a [.Gt] [b] pos) (fBin hGt f g) := de_cmpR op_gt opd_gt ha hb (nomark _)
theorem de_ge (hr : Room k X.A) (ha : DE X a f) (hb : DE X b g) : DE X (.Compare a [.GtE] [b] pos) (fBin hGe f g) := de_cmpR op_ge opd_ge ha hb (nomark _)
theorem de_eq (hr : Room k X.A) (ha : DE X a f) (hb : DE X b g) : DE X (.Compare a [.Eq] [b] pos) (fBin hEq f g) := de_cmpR (op_eqD (u64 hr)) opd_eq ha hb (nomark _)
theorem de_ne (hr : Room k X.A) (ha : DE X a f) (hb : DE X b g) : DE X (.Compare a [.NotEq] [b] pos) (fBin hNe f g) := de_cmpR (op_neD (u64 hr)) opd_ne ha hb (nomark _)
theorem de_in (hr : Room k X.A) (ha : DE X a f) (hb : DE X b g) (hm : behindInMarks .In b = false := by with_unfolding_all rfl) : DE X (.Compare a [.In] [b] pos) (fBin hIn f g) := de_cmpR (op_inD (u65 hr)) opd_in ha hb hm
theorem de_notIn (hr : Room k X.A) (ha : DE X a f) (hb : DE X b g) (hm : behindInMarks .NotIn b = false := by with_unfolding_all rfl) : DE X (.Compare a [.NotIn] [b] pos) (fBin hNotIn f g) := de_cmpR (op_notInD (u65 hr)) opd_notIn ha hb hm
theorem dt_lt (hr : Room k X.A) (ha : DE X a f) (hb : DE X b g) : DT X (.Compare a [.Lt] [b] pos) (fB (fBin hLt f g)) := dt_cmpR (OpR.or op_lt (op_ltT (u0 hr))) opd_lt ha hb (nomark _)
theorem dt_le (hr : Room k X.A) (ha : DE X a f) (hb : DE X b g) : DT X (.Compare a [.LtE] [b] pos) (fB (fBin hLe f g)) := dt_cmpR op_le opd_le ha hb (nomark _)
theorem dt_gt (hr : Room k X.A) (ha : DE X a f) (hb : DE X b g) : DT X (.Compare a [.Gt] [b] pos) (fB (fBin hGt f g)) := dt_cmpR op_gt opd_gt ha hb (nomark _)
theorem dt_ge (hr : Room k X.A) (ha : DE X a f) (hb : DE X b g) : DT X (.Compare a [.GtE] [b] pos) (fB (fBin hGe f g)) := dt_cmpR op_ge opd_ge ha hb (nomark _)
theorem dt_eq (hr : Room k X.A) (ha : DE X a f) (hb : DE X b g) : DT X (.Compare a [.Eq] [b] pos) (fB (fBin hEq f g)) := dt_cmpR (op_eqD (u64 hr)) opd_eq ha hb (nomark _)
theorem dt_ne (hr : Room k X.A) (ha : DE X a f) (hb : DE X b g) : DT X (.Compare a [.NotEq] [b] pos) (fB (fBin hNe f g)) := dt_cmpR (op_neD (u64 hr)) opd_ne ha hb (nomark _)
theorem dt_in (hr : Room k X.A) (ha : DE X a f) (hb : DE X b g) (hm : behindInMarks .In b = false := by with_unfolding_all rfl) : DT X (.Compare a [.In] [b] pos) (fB (fBin hIn f g)) := dt_cmpR (op_inD (u65 hr)) opd_in ha hb hm
theorem dt_notIn (hr : Room k X.A) (ha : DE X a f) (hb : DE X b g) (hm : behindInMarks .NotIn b = false := by with_unfolding_all rfl) : DT X (.Compare a [.NotIn] [b] pos) (fB (fBin hNotIn f g)) := dt_cmpR (op_notInD (u65 hr)) opd_notIn ha hb hm
theorem de_leLe (hr : Room k X.A) (ha : DE X a f) (hb : DE X b g) (hc : DE X c h) (hm : lastMarks [.LtE, .LtE] [b, c] = false := by with_unfolding_all rfl) : DE X (.Compare a [.LtE, .LtE] [b, c] pos) (fChain hLe hLe f g h) := de_chain op_le opd_le op_le opd_le ha hb hc hm
theorem dt_leLe (hr : Room k X.A) (ha : DE X a f) (hb : DE X b g) (hc : DE X c h) (hm : lastMarks [.LtE, .LtE] [b, c] = false := by with_unfolding_all rfl) : DT X (.Compare a [.LtE, .LtE] [b, c] pos) (fB (fChain hLe hLe f g h)) := dt_chain op_le opd_le op_le opd_le ha hb hc hm
theorem dt_leLt (hr : Room k X.A) (ha : DE X a f) (hb : DE X b g) (hc : DE X c h) (hm : lastMarks [.LtE, .Lt] [b, c] = false := by with_unfolding_all rfl) : DT X (.Compare a [.LtE, .Lt] [b, c] pos) (fB (fChain hLe hLt f g h)) := dt_chain op_le opd_le (OpR.or op_lt (op_ltT (u0 hr))) opd_lt ha hb hc hm
/-- is None -/
def isN : PyData → Bool
  | .none => true
  | _ => false
def hIsN (d : PyData) : Option PyData := some (.bool (isN d))
def hNotN (d : PyData) : Option PyData := some (.bool (!isN d))
theorem isN_dr {B : Hp} {v : V} {d : PyData} (h : Dr B v d) : decide (v = .non) = isN d := by
  cases h <;> first | rfl | exact decide_eq_false (fun z => by cases z)
theorem tIsN_of : ∀ σ H Q, tE (fUn hIsN f) σ H Q → tIsN (tE f) σ H Q := fun σ H Q ⟨Z, B, ρ, d, ρ', ok, e, q⟩ => by
  unfold fUn at e
  obtain ⟨⟨d1, ρ1⟩, e1, e2⟩ := Option.bind_eq_some_iff.mp e
  obtain ⟨z, e3, e4⟩ := Option.map_eq_some_iff.mp e2
  cases e4
  cases e3
  refine ⟨Z, B, ρ, d1, _, ok, e1, fun B1 H1 x s1 ok1 dx => ?_⟩
  show Q (V.bl (decide (x = V.non))) H1
  rw [isN_dr dx]
  exact q B1 H1 _ s1 ok1 (.bl _)
theorem tNotN_of : ∀ σ H Q, tE (fUn hNotN f) σ H Q → tNotN (tE f) σ H Q := fun σ H Q ⟨Z, B, ρ, d, ρ', ok, e, q⟩ => by
  unfold fUn at e
  obtain ⟨⟨d1, ρ1⟩, e1, e2⟩ := Option.bind_eq_some_iff.mp e
  obtain ⟨z, e3, e4⟩ := Option.map_eq_some_iff.mp e2
  cases e4
  cases e3
  refine ⟨Z, B, ρ, d1, _, ok, e1, fun B1 H1 x s1 ok1 dx => ?_⟩
  show Q (V.bl (!decide (x = V.non))) H1
  rw [isN_dr dx]
  exact q B1 H1 _ s1 ok1 (.bl _)
theorem de_isN {j pos'} (ha : DE X a f) : DE X (.Compare a [.Is] [.Constant .none j pos'] pos) (fUn hIsN f) := pe_imp (pe_cmp (pc_isN ha)) tIsN_of
theorem de_notN {j pos'} (ha : DE X a f) : DE X (.Compare a [.IsNot] [.Constant .none j pos'] pos) (fUn hNotN f) := pe_imp (pe_cmp (pc_notN ha)) tNotN_of
theorem dt_isN {j pos'} (ha : DE X a f) : DT X (.Compare a [.Is] [.Constant .none j pos'] pos) (fB (fUn hIsN f)) := pt_imp (pt_cmp (pc_isN ha)) (tB_of tIsN_of)
theorem dt_notN {j pos'} (ha : DE X a f) : DT X (.Compare a [.IsNot] [.Constant .none j pos'] pos) (fB (fUn hNotN f)) := pt_imp (pt_cmp (pc_notN ha)) (tB_of tNotN_of)

/-! ### subscripts -/
def hIx : PyData → PyData → Option PyData
  | .list xs, .int i => atI xs i
  | .tuple xs, .int i => atI xs i
  | _, _ => none
theorem atI_dr {B : Hp} {vs : List V} {ds : List PyData} {i : Int} {d : PyData} (h : DrAll B vs ds) (e : atI ds i = some d) : ∃ v, atI vs i = some v ∧ Dr B v d := by
  unfold atI at e ⊢
  obtain ⟨j, e1, e2⟩ := Option.bind_eq_some_iff.mp e
  obtain ⟨v, e3, e4⟩ := h.get e2
  rw [h.length, e1]
  exact ⟨v, e3, e4⟩
theorem opd_ix {K : PySem.W.Frag} : OpD (fun x y H Q => rIxL K x y H Q ∨ rIxT K x y H Q) hIx := fun Z B σ H ρ x y d e z ok dx dy hz Q q => by
  unfold hIx at hz
  split at hz
  · cases dx with
    | lst h1 h2 =>
      cases dy
      obtain ⟨v, h3, h4⟩ := atI_dr h2 hz
      exact .inl ⟨_, _, _, v, rfl, rfl, SqL.of (ok.le _ _ h1), h3, q B H v (Same.refl B) ok h4⟩
  · cases dx with
    | tup h1 h2 =>
      cases dy
      obtain ⟨v, h3, h4⟩ := atI_dr h2 hz
      exact .inr ⟨_, _, _, v, rfl, rfl, SqT.of (ok.le _ _ h1), h3, q B H v (Same.refl B) ok h4⟩
  · cases hz
theorem de_ix (ha : DE X a f) (hb : DE X b g) (hs : PlainIx b := by exact fun _ _ => rfl) : DE X (.Subscript a b pos) (fBin hIx f g) := pe_imp (pe_ix (IxR.or ix_list ix_tup) ha hb hs) (tOp_of opd_ix)
/-- the list of an own slot -/
def ownL : Option Sl → Option (List PyData)
  | some (.ow xs) => some xs
  | some (.io xs) => some xs
  | _ => none
theorem own_at {Z : Zn} {B : Hp} {σ : L2.St} {H : Hp} {ρ : En} {i : Nat} {xs : List PyData} (ok : EnvOk Z B σ H ρ) (h : ownL ρ[i]? = some xs) :
    ∃ s a vs, ρ[i]? = some s ∧ isOwn s = true ∧ σ[i]? = some (some (.ref a)) ∧ H a = some (.lst vs) ∧ B a = none ∧ Z.fr a = none ∧ DrAll B vs xs ∧ (s = .ow xs ∨ (s = .io xs ∧ a = Z.bag)) := by
  cases e : ρ[i]? with
  | none =>
    rw [e] at h
    cases h
  | some s =>
    rw [e] at h
    cases s with
    | ow ys =>
      cases h
      obtain ⟨a, o, q1, q2, q3, q4, q5⟩ := ok.ow i _ e rfl
      cases o with
      | lst vs => exact ⟨_, a, vs, rfl, rfl, q1, q2, q3, q4, q5, .inl rfl⟩
      | _ => exact q5.elim
    | io ys =>
      cases h
      obtain ⟨a, o, q1, q2, q3, q4, q5⟩ := ok.ow i _ e rfl
      have h6 := ok.io i _ e
      rw [q1] at h6
      have h7 : a = Z.bag := V.ref.inj (Option.some.inj (Option.some.inj h6))
      cases o with
      | lst vs => exact ⟨_, a, vs, rfl, rfl, q1, q2, q3, q4, q5, .inr ⟨rfl, h7⟩⟩
      | _ => exact q5.elim
    | _ => cases h
theorem own_same {σ : L2.St} {i : Nat} {a b : Addr} (h1 : σ[i]? = some (some (V.ref a))) (h2 : σ[i]? = some (some (V.ref b))) : a = b := by
  rw [h1] at h2
  exact V.ref.inj (Option.some.inj (Option.some.inj h2))
/-- the same slot with another list -/
def newL : Option Sl → List PyData → Sl
  | some (.io _), xs => .io xs
  | _, xs => .ow xs
theorem own_mut {Z : Zn} {B : Hp} {σ : L2.St} {H : Hp} {ρ : En} {i : Nat} {xs ys : List PyData} {s : Sl} {a : Addr} {ws : List V} (ok : EnvOk Z B σ H ρ) (h1 : ρ[i]? = some s) (h2 : isOwn s = true) (h3 : σ[i]? = some (some (.ref a)))
    (h4 : s = .ow xs ∨ (s = .io xs ∧ a = Z.bag)) (hr : DrAll B ws ys) : EnvOk Z B σ (upd H a (.lst ws)) (ρ.set i (newL ρ[i]? ys)) := by
  rw [h1]
  rcases h4 with rfl | ⟨rfl, e⟩
  · exact ok.mut h1 h2 h3 (s' := .ow ys) hr
  · exact ok.mut h1 h2 h3 (s' := .io ys) hr (fun _ => e)
/-- an own list's item -/
def fIxO (i : Nat) (g : FE) : FE := fun ρ => (g ρ).bind fun p => (ownL ρ[i]?).bind fun _ => (ownL p.2[i]?).bind fun xs => match p.1 with
  | .int k => (atI xs k).map fun d => (d, p.2)
  | _ => none
theorem de_ixO (i : Nat) {x : Str} {px : Pos} (hb : DE X b g) (hN : X.N[i]? = some x := by rfl) (hv : Vis X.env.scope x := by first | exact Or.inl rfl | exact Or.inr (Or.inl rfl) | exact Or.inr (Or.inr rfl)) (hd : (x == ("__debug__" : Str)) = false := by decide)
    (hcd : (x == ("__classdict__" : Str)) = false := by decide) (hs : PlainIx b := by exact fun _ _ => rfl) : DE X (.Subscript (.Name x px) b pos) (fIxO i g) := pe_imp (pe_ix ix_list (pe_var hN hv hd hcd) hb hs) fun σ H Q ⟨Z, B, ρ, d, ρ', ok, e, q⟩ => by
  unfold fIxO at e
  obtain ⟨⟨d1, ρ1⟩, e1, e2⟩ := Option.bind_eq_some_iff.mp e
  obtain ⟨xs0, h0, e3⟩ := Option.bind_eq_some_iff.mp e2
  obtain ⟨xs, h1, e4⟩ := Option.bind_eq_some_iff.mp e3
  obtain ⟨_, a0, _, _, _, g1, g2, _⟩ := own_at ok h0
  refine ⟨.ref a0, g1, Z, B, ρ, d1, _, ok, e1, fun B1 H1 y s1 ok1 dy => ?_⟩
  obtain ⟨_, a, vs, _, _, k1, k2, k3, k4, k5, _⟩ := own_at ok1 h1
  have e5 := own_same g1 k1
  subst e5
  cases d1 with
  | int k =>
    obtain ⟨z, e6, e7⟩ := Option.map_eq_some_iff.mp e4
    cases e7
    cases dy
    obtain ⟨v, h3, h4⟩ := atI_dr k5 e6
    exact ⟨a0, vs, k, v, rfl, rfl, SqL.of k2, h3, q B1 H1 v s1 ok1 h4⟩
  | _ => cases e4

/-! ### slices -/
def cutD (xs : List PyData) (lo hi : Option Int) : List PyData := (xs.drop (HT.sIx xs.length 0 lo)).take (HT.sIx xs.length xs.length hi - HT.sIx xs.length 0 lo)
abbrev FO := En → Option (Option Int × En)
def tO (f : FO) : TO := fun σ H Q => ∃ Z B ρ o ρ', EnvOk Z B σ H ρ ∧ f ρ = some (o, ρ') ∧ ∀ B' H', Same B B' → EnvOk Z B' σ H' ρ' → Q o H'
abbrev DO (X : Cx) (e : Option Expr) (f : FO) := PO X e (tO f)
def fNo : FO := fun ρ => some (none, ρ)
def fPt (f : FE) : FO := fun ρ => (f ρ).bind fun p => match p.1 with
  | .int i => some (some i, p.2)
  | _ => none
theorem po_imp {e : Option Expr} {t t' : TO} (h : PO X e t) (i : ∀ σ H Q, t' σ H Q → t σ H Q) : PO X e t' := ⟨fun pins s σ H Q I q => h.run pins s σ H Q I (i σ H Q q)⟩
theorem do_no : DO X none fNo := po_imp po_none fun σ H Q ⟨Z, B, ρ, o, ρ', ok, e, q⟩ => by
  cases e
  exact q B H (Same.refl B) ok
theorem do_pt (h : DE X e f) : DO X (some e) (fPt f) := po_imp (po_some h) fun σ H Q ⟨Z, B, ρ, o, ρ', ok, e, q⟩ => by
  unfold fPt at e
  obtain ⟨⟨d1, ρ1⟩, e1, e2⟩ := Option.bind_eq_some_iff.mp e
  refine ⟨Z, B, ρ, d1, ρ1, ok, e1, fun B1 H1 y s1 ok1 dy => ?_⟩
  cases d1 with
  | int k =>
    cases e2
    cases dy
    exact ⟨k, rfl, q B1 H1 s1 ok1⟩
  | _ => cases e2
def hCut (lo hi : Option Int) : PyData → Option Sl
  | .list xs => some (.ow (cutD xs lo hi))
  | .tuple xs => some (.sh (.tuple (cutD xs lo hi)))
  | _ => none
def fCut (f : FE) (l h : FO) : FR := fun ρ => (f ρ).bind fun p => (l p.2).bind fun q => (h q.2).bind fun r => (hCut q.1 r.1 p.1).map fun s => (s, r.2)
theorem cut_dr {B : Hp} {vs : List V} {ds : List PyData} (lo hi : Option Int) (h : DrAll B vs ds) : DrAll B (cutV vs lo hi) (cutD ds lo hi) := by
  unfold cutV cutD
  rw [h.length]
  exact (h.drop _).take _
theorem cut_whole {ds : List PyData} {lo hi : Option Int} (h : HT.sIx ds.length 0 lo = 0 ∧ HT.sIx ds.length ds.length hi = ds.length) : cutD ds lo hi = ds := by
  unfold cutD
  rw [h.1, h.2, List.drop_zero, Nat.sub_zero, List.take_length]
theorem dr_cut {lo hi : Option Expr} {l u : FO} {p2 : Pos} (he : DE X e f) (hl : DO X lo l) (hu : DO X hi u) : DR X (.Subscript e (.Slice lo hi none p2) pos) (fCut f l u) := pe_imp (pe_slice (SlR.or sl_list sl_tupA) he hl hu) fun σ H Q ⟨Z, B, ρ, s, ρ', ok, e, q⟩ => by
  unfold fCut at e
  obtain ⟨⟨d1, ρ1⟩, e1, e2⟩ := Option.bind_eq_some_iff.mp e
  obtain ⟨⟨o1, ρ2⟩, e3, e4⟩ := Option.bind_eq_some_iff.mp e2
  obtain ⟨⟨o2, ρ3⟩, e5, e6⟩ := Option.bind_eq_some_iff.mp e4
  obtain ⟨z, e7, e8⟩ := Option.map_eq_some_iff.mp e6
  cases e8
  refine ⟨Z, B, ρ, d1, ρ1, ok, e1, fun B1 H1 y s1 ok1 dy => ⟨Z, B1, ρ1, o1, ρ2, ok1, e3, fun B2 H2 s2 ok2 => ⟨Z, B2, ρ2, o2, _, ok2, e5, fun B3 H3 s3 ok3 => ?_⟩⟩⟩
  have dy3 := (dy.mono s2).mono s3
  cases d1 with
  | list xs =>
    cases e7
    cases dy3 with
    | lst h1 h2 =>
      refine .inl ⟨_, _, rfl, SqL.of (ok3.le _ _ h1), fun p hp => ?_⟩
      obtain ⟨ok4, r4⟩ := own_lst ok3 (cut_dr o1 o2 h2) hp
      exact q B3 _ _ (s1.trans (s2.trans s3)) ok4 r4
  | tuple xs =>
    cases e7
    cases dy3 with
    | tup h1 h2 =>
      refine .inr ⟨_, _, rfl, SqT.of (ok3.le _ _ h1), fun hw => ?_, fun hw p hp => ?_⟩
      · rw [h2.length] at hw
        rw [cut_whole hw] at q
        exact q B3 H3 _ (s1.trans (s2.trans s3)) ok3 (.inl ⟨_, rfl, .tup h1 h2⟩)
      · obtain ⟨s4, ok4, d4⟩ := lay_tup ok3 (cut_dr o1 o2 h2) hp
        exact q _ _ _ (s1.trans (s2.trans (s3.trans s4))) ok4 (.inl ⟨_, rfl, d4⟩)
  | _ => cases e7

/-! ### built-in functions -/
def CallD (r : List V → Hp → VK → Prop) (h : List PyData → Option Sl) : Prop := ∀ (Z : Zn) (B : Hp) (σ : L2.St) (H : Hp) (ρ : En) (vs : List V) (ds : List PyData) (s : Sl), EnvOk Z B σ H ρ → DrAll B vs ds → h ds = some s →
  ∀ Q : VK, (∀ B' H' v, Same B B' → EnvOk Z B' σ H' ρ → RepR Z B' H' (NotOwn σ ρ) v s → Q v H') → r vs H Q
def fCall (h : List PyData → Option Sl) (k : FA) : FR := fun ρ => (k ρ).bind fun p => (h p.1).map fun s => (s, p.2)
theorem tCB_of {r : List V → Hp → VK → Prop} {hh : List PyData → Option Sl} {k : FA} (hr : CallD r hh) : ∀ σ H Q, tR (fCall hh k) σ H Q → tCB r (tA k) σ H Q := fun σ H Q ⟨Z, B, ρ, s, ρ', ok, e, q⟩ => by
  unfold fCall at e
  obtain ⟨⟨ds, ρ1⟩, e1, e2⟩ := Option.bind_eq_some_iff.mp e
  obtain ⟨z, e3, e4⟩ := Option.map_eq_some_iff.mp e2
  cases e4
  exact ⟨Z, B, ρ, ds, _, ok, e1, fun B1 H1 vs s1 ok1 dv => hr Z B1 σ H1 _ vs ds _ ok1 dv e3 Q fun B2 H2 v s2 ok2 rv => q B2 H2 v (s1.trans s2) ok2 rv⟩
theorem dr_callB {id : String} {x : Str} {p : Pos} {r : List V → Hp → VK → Prop} {hh : List PyData → Option Sl} {k : FA} (hc : CallR X (.builtin id) r) (hr : CallD r hh) (hm : X.mg x = none) (hv : bootBuiltins x = some (.builtin id)) (ha : DA X (e :: es) k) (hg : Gl X x := by rfl) (hn : x ≠ "__name__" := by decide) (hdb : (x == ("__debug__" : Str)) = false := by decide)
    (he : starEach (e :: es) X.env = (false, eval e X.env) :: starEach es X.env := by rfl) (hpl : (backTo pos (starEach es X.env)).any (·.1) = false := by rfl) : DR X (.Call (.Name x p) (e :: es) [] pos) (fCall hh k) := pe_imp (pe_callB hc hg hm hv ha hn hdb he hpl) (tCB_of hr)
theorem dr_callTy {T : String} {x : Str} {p : Pos} {r : List V → Hp → VK → Prop} {hh : List PyData → Option Sl} {k : FA} (hc : CallR X (.type T) r) (hr : CallD r hh) (hm : X.mg x = none) (hv : bootBuiltins x = some (.type T)) (ha : DA X (e :: es) k) (hg : Gl X x := by rfl) (hn : x ≠ "__name__" := by decide) (hdb : (x == ("__debug__" : Str)) = false := by decide)
    (he : starEach (e :: es) X.env = (false, eval e X.env) :: starEach es X.env := by rfl) (hpl : (backTo pos (starEach es X.env)).any (·.1) = false := by rfl) : DR X (.Call (.Name x p) (e :: es) [] pos) (fCall hh k) := pe_imp (pe_callTy hc hg hm hv ha hn hdb he hpl) (tCB_of hr)
def hLen : List PyData → Option Sl
  | [.list xs] => some (.sh (.int xs.length))
  | [.tuple xs] => some (.sh (.int xs.length))
  | _ => none
def hAbs : List PyData → Option Sl
  | [.int i] => some (.sh (.int (if i < 0 then -i else i)))
  | _ => none
def hAll : List PyData → Option Sl
  | [.list xs] => (boolsO xs).map fun bs => .sh (.bool (bs.all id))
  | _ => none
def hSum : List PyData → Option Sl
  | [.list xs] => (intsO xs).map fun bs => .sh (.int bs.sum)
  | _ => none
def hList : List PyData → Option Sl
  | [.list xs] => some (.ow xs)
  | [.tuple xs] => some (.ow xs)
  | _ => none
def hTuple : List PyData → Option Sl
  | [.list xs] => some (.sh (.tuple xs))
  | [.tuple xs] => some (.sh (.tuple xs))
  | _ => none
def maxI : Int → List Int → Int
  | a, [] => a
  | a, b :: r => maxI (if b > a then b else a) r
def minI : Int → List Int → Int
  | a, [] => a
  | a, b :: r => minI (if b < a then b else a) r
def hMax : List PyData → Option Sl
  | [.int i, .int j] => some (.sh (.int (if j > i then j else i)))
  | [.list xs] => match intsO xs with
    | some (a :: r) => some (.sh (.int (maxI a r)))
    | _ => none
  | _ => none
def hMin : List PyData → Option Sl
  | [.int i, .int j] => some (.sh (.int (if j < i then j else i)))
  | [.list xs] => match intsO xs with
    | some (a :: r) => some (.sh (.int (minI a r)))
    | _ => none
  | _ => none
theorem maxI_spec : ∀ (r : List Int) (a : Int), maxI a r ∈ a :: r ∧ ∀ x ∈ a :: r, x ≤ maxI a r
  | [], a => ⟨List.mem_singleton.mpr rfl, fun x hx => by rw [List.mem_singleton.mp hx]; exact Int.le_refl a⟩
  | b :: r, a => by
    obtain ⟨h1, h2⟩ := maxI_spec r (if b > a then b else a)
    refine ⟨?_, fun x hx => ?_⟩
    · show maxI (if b > a then b else a) r ∈ a :: b :: r
      rcases List.mem_cons.mp h1 with h | h
      · rw [h]
        split
        · exact List.mem_cons_of_mem _ List.mem_cons_self
        · exact List.mem_cons_self
      · exact List.mem_cons_of_mem _ (List.mem_cons_of_mem _ h)
    · show x ≤ maxI (if b > a then b else a) r
      have h3 := h2 _ List.mem_cons_self
      have ha : a ≤ (if b > a then b else a) := by split <;> omega
      have hb : b ≤ (if b > a then b else a) := by split <;> omega
      rcases List.mem_cons.mp hx with h | h
      · subst h
        exact Int.le_trans ha h3
      · rcases List.mem_cons.mp h with h | h
        · subst h
          exact Int.le_trans hb h3
        · exact h2 x (List.mem_cons_of_mem _ h)
theorem minI_spec : ∀ (r : List Int) (a : Int), minI a r ∈ a :: r ∧ ∀ x ∈ a :: r, minI a r ≤ x
  | [], a => ⟨List.mem_singleton.mpr rfl, fun x hx => by rw [List.mem_singleton.mp hx]; exact Int.le_refl a⟩
  | b :: r, a => by
    obtain ⟨h1, h2⟩ := minI_spec r (if b < a then b else a)
    refine ⟨?_, fun x hx => ?_⟩
    · show minI (if b < a then b else a) r ∈ a :: b :: r
      rcases List.mem_cons.mp h1 with h | h
      · rw [h]
        split
        · exact List.mem_cons_of_mem _ List.mem_cons_self
        · exact List.mem_cons_self
      · exact List.mem_cons_of_mem _ (List.mem_cons_of_mem _ h)
    · show minI (if b < a then b else a) r ≤ x
      have h3 := h2 _ List.mem_cons_self
      have ha : (if b < a then b else a) ≤ a := by split <;> omega
      have hb : (if b < a then b else a) ≤ b := by split <;> omega
      rcases List.mem_cons.mp hx with h | h
      · subst h
        exact Int.le_trans h3 ha
      · rcases List.mem_cons.mp h with h | h
        · subst h
          exact Int.le_trans h3 hb
        · exact h2 x (List.mem_cons_of_mem _ h)
theorem drAll_one {B : Hp} {vs : List V} {d : PyData} (h : DrAll B vs [d]) : ∃ v, vs = [v] ∧ Dr B v d := by
  cases h with
  | cons h1 h2 =>
    cases h2
    exact ⟨_, rfl, h1⟩
theorem drAll_two {B : Hp} {vs : List V} {d e : PyData} (h : DrAll B vs [d, e]) : ∃ v w, vs = [v, w] ∧ Dr B v d ∧ Dr B w e := by
  cases h with
  | cons h1 h2 =>
    obtain ⟨w, rfl, h3⟩ := drAll_one h2
    exact ⟨_, w, rfl, h1, h3⟩
theorem cd_sh {Z : Zn} {B : Hp} {σ : L2.St} {H : Hp} {ρ : En} {d : PyData} {v : V} {Q : VK} (q : ∀ B' H' v, Same B B' → EnvOk Z B' σ H' ρ → RepR Z B' H' (NotOwn σ ρ) v (.sh d) → Q v H') (ok : EnvOk Z B σ H ρ) (h : Dr B v d) : Q v H := q B H v (Same.refl B) ok (.inl ⟨d, rfl, h⟩)
theorem cd_len {K : PySem.W.Frag} : CallD (fun xs H Q => ∃ p ys, xs = [.ref p] ∧ (SqL K H p ys ∨ SqT K H p ys) ∧ Q (.int ys.length) H) hLen := fun Z B σ H ρ vs ds s ok dv hz Q q => by
  unfold hLen at hz
  split at hz
  · cases hz
    obtain ⟨v, rfl, h1⟩ := drAll_one dv
    cases h1 with
    | lst h2 h3 =>
      refine ⟨_, _, rfl, .inl (SqL.of (ok.le _ _ h2)), ?_⟩
      rw [h3.length]
      exact cd_sh q ok (.int _)
  · cases hz
    obtain ⟨v, rfl, h1⟩ := drAll_one dv
    cases h1 with
    | tup h2 h3 =>
      refine ⟨_, _, rfl, .inr (SqT.of (ok.le _ _ h2)), ?_⟩
      rw [h3.length]
      exact cd_sh q ok (.int _)
  · cases hz
theorem cd_abs : CallD (fun xs H Q => ∃ i, xs = [.int i] ∧ Q (.int (if i < 0 then -i else i)) H) hAbs := fun Z B σ H ρ vs ds s ok dv hz Q q => by
  unfold hAbs at hz
  split at hz
  · cases hz
    obtain ⟨v, rfl, h1⟩ := drAll_one dv
    cases h1
    exact ⟨_, rfl, cd_sh q ok (.int _)⟩
  · cases hz
theorem cd_all {K : PySem.W.Frag} : CallD (rAll K) hAll := fun Z B σ H ρ vs ds s ok dv hz Q q => by
  unfold hAll at hz
  split at hz
  · obtain ⟨bs, h1, h2⟩ := Option.map_eq_some_iff.mp hz
    cases h2
    have e1 := boolsO_eq h1
    subst e1
    obtain ⟨v, rfl, h3⟩ := drAll_one dv
    cases h3 with
    | lst h4 h5 =>
      have e2 := h5.bools_inv
      subst e2
      exact ⟨_, bs, rfl, SqL.of (ok.le _ _ h4), cd_sh q ok (.bl _)⟩
  · cases hz
theorem cd_sum {K : PySem.W.Frag} : CallD (rSum K) hSum := fun Z B σ H ρ vs ds s ok dv hz Q q => by
  unfold hSum at hz
  split at hz
  · obtain ⟨bs, h1, h2⟩ := Option.map_eq_some_iff.mp hz
    cases h2
    have e1 := intsO_eq h1
    subst e1
    obtain ⟨v, rfl, h3⟩ := drAll_one dv
    cases h3 with
    | lst h4 h5 =>
      have e2 := h5.ints_inv
      subst e2
      exact ⟨_, bs, rfl, SqL.of (ok.le _ _ h4), cd_sh q ok (.int _)⟩
  · cases hz
theorem cd_list {K : PySem.W.Frag} : CallD (fun xs H Q => ∃ p ys, xs = [.ref p] ∧ (SqL K H p ys ∨ SqT K H p ys) ∧ ∀ l, H l = none → Q (.ref l) (upd H l (.lst ys))) hList := fun Z B σ H ρ vs ds s ok dv hz Q q => by
  unfold hList at hz
  split at hz
  · cases hz
    obtain ⟨v, rfl, h1⟩ := drAll_one dv
    cases h1 with
    | lst h2 h3 =>
      refine ⟨_, _, rfl, .inl (SqL.of (ok.le _ _ h2)), fun l hl => ?_⟩
      obtain ⟨ok4, r4⟩ := own_lst ok h3 hl
      exact q B _ _ (Same.refl B) ok4 r4
  · cases hz
    obtain ⟨v, rfl, h1⟩ := drAll_one dv
    cases h1 with
    | tup h2 h3 =>
      refine ⟨_, _, rfl, .inr (SqT.of (ok.le _ _ h2)), fun l hl => ?_⟩
      obtain ⟨ok4, r4⟩ := own_lst ok h3 hl
      exact q B _ _ (Same.refl B) ok4 r4
  · cases hz
theorem cd_tuple {K : PySem.W.Frag} : CallD (fun xs H Q => ∃ p ys, xs = [.ref p] ∧ ((SqL K H p ys ∧ ∀ l, H l = none → Q (.ref l) (upd H l (.tup ys))) ∨ (SqT K H p ys ∧ Q (.ref p) H))) hTuple := fun Z B σ H ρ vs ds s ok dv hz Q q => by
  unfold hTuple at hz
  split at hz
  · cases hz
    obtain ⟨v, rfl, h1⟩ := drAll_one dv
    cases h1 with
    | lst h2 h3 =>
      refine ⟨_, _, rfl, .inl ⟨SqL.of (ok.le _ _ h2), fun l hl => ?_⟩⟩
      obtain ⟨s4, ok4, d4⟩ := lay_tup ok h3 hl
      exact q _ _ _ s4 ok4 (.inl ⟨_, rfl, d4⟩)
  · cases hz
    obtain ⟨v, rfl, h1⟩ := drAll_one dv
    cases h1 with
    | tup h2 h3 => exact ⟨_, _, rfl, .inr ⟨SqT.of (ok.le _ _ h2), cd_sh q ok (.tup h2 h3)⟩⟩
  · cases hz
theorem cd_max {K : PySem.W.Frag} : CallD (fun xs H Q => (∃ i j, xs = [.int i, .int j] ∧ Q (.int (if j > i then j else i)) H) ∨ rMax K xs H Q) hMax := fun Z B σ H ρ vs ds s ok dv hz Q q => by
  unfold hMax at hz
  split at hz
  · cases hz
    obtain ⟨v, w, rfl, h1, h2⟩ := drAll_two dv
    cases h1
    cases h2
    exact .inl ⟨_, _, rfl, cd_sh q ok (.int _)⟩
  · split at hz
    · rename_i a r h1
      cases hz
      have e1 := intsO_eq h1
      subst e1
      obtain ⟨v, rfl, h3⟩ := drAll_one dv
      cases h3 with
      | lst h4 h5 =>
        have e2 := DrAll.ints_inv (a :: r) h5
        subst e2
        refine .inr ⟨_, a :: r, rfl, SqL.of (ok.le _ _ h4), by simp, fun m hm hle => ?_⟩
        obtain ⟨g1, g2⟩ := maxI_spec r a
        have e3 : m = maxI a r := Int.le_antisymm (g2 m hm) (hle _ g1)
        subst e3
        exact cd_sh q ok (.int _)
    · cases hz
  · cases hz
theorem cd_min {K : PySem.W.Frag} : CallD (fun xs H Q => (∃ i j, xs = [.int i, .int j] ∧ Q (.int (if j < i then j else i)) H) ∨ rMin K xs H Q) hMin := fun Z B σ H ρ vs ds s ok dv hz Q q => by
  unfold hMin at hz
  split at hz
  · cases hz
    obtain ⟨v, w, rfl, h1, h2⟩ := drAll_two dv
    cases h1
    cases h2
    exact .inl ⟨_, _, rfl, cd_sh q ok (.int _)⟩
  · split at hz
    · rename_i a r h1
      cases hz
      have e1 := intsO_eq h1
      subst e1
      obtain ⟨v, rfl, h3⟩ := drAll_one dv
      cases h3 with
      | lst h4 h5 =>
        have e2 := DrAll.ints_inv (a :: r) h5
        subst e2
        refine .inr ⟨_, a :: r, rfl, SqL.of (ok.le _ _ h4), by simp, fun m hm hle => ?_⟩
        obtain ⟨g1, g2⟩ := minI_spec r a
        have e3 : m = minI a r := Int.le_antisymm (hle _ g1) (g2 m hm)
        subst e3
        exact cd_sh q ok (.int _)
    · cases hz
  · cases hz
end

/-! GStm: targets, statements, what is walked, loops, comprehensions. -/

/-! ### targets -/
abbrev FG := PyData → En → Option En
abbrev FGs := List PyData → En → Option En
/-- the slots outside js are as they were -/
structure SlotsOut (js : List Nat) (σ σ' : L2.St) : Prop where
  len : σ'.length = σ.length
  out : ∀ j, j ∉ js → σ'[j]? = σ[j]?
/-- a target: it touches the slots js alone -/
def tG (js : List Nat) (g : FG) : TG := fun v σ H Q => ∃ Z B ρ d ρ', EnvOk Z B σ H ρ ∧ Dr B v d ∧ g d ρ = some ρ' ∧ ∀ σ', EnvOk Z B σ' H ρ' → SlotsOut js σ σ' → Q σ' H
def tGs (js : List Nat) (g : FGs) : TGs := fun vs σ H Q => ∃ Z B ρ ds ρ', EnvOk Z B σ H ρ ∧ DrAll B vs ds ∧ g ds ρ = some ρ' ∧ ∀ σ', EnvOk Z B σ' H ρ' → SlotsOut js σ σ' → Q σ' H
abbrev DG (X : Cx) (e : Expr) (js : List Nat) (g : FG) := PG X e (tG js g)
abbrev DGs (X : Cx) (es : List Expr) (js : List Nat) (g : FGs) := PGs X es (tGs js g)
def gVar (i : Nat) : FG := fun d ρ => some (ρ.set i (.sh d))
def gNo : FGs := fun ds ρ => match ds with
  | [] => some ρ
  | _ => none
def gCo (g : FG) (h : FGs) : FGs := fun ds ρ => match ds with
  | d :: ds => (g d ρ).bind fun ρ1 => h ds ρ1
  | _ => none
def gTu (n : Nat) (h : FGs) : FG := fun d ρ => match d with
  | .tuple ds => if ds.length = n then h ds ρ else none
  | _ => none
theorem pg_imp {X : Cx} {e : Expr} {t t' : TG} (h : PG X e t) (i : ∀ v σ H Q, t' v σ H Q → t v σ H Q) : PG X e t' := ⟨fun pins s σ H v u Q I r q => h.run pins s σ H v u Q I r (i v σ H Q q)⟩
theorem pgs_imp {X : Cx} {es : List Expr} {t t' : TGs} (h : PGs X es t) (i : ∀ v σ H Q, t' v σ H Q → t v σ H Q) : PGs X es t' := ⟨fun pins s σ H v u Q I r q => h.run pins s σ H v u Q I r (i v σ H Q q)⟩
theorem set_other {σ : L2.St} {i j : Nat} {x : Option V} (h : j ∉ [i]) : (σ.set i x)[j]? = σ[j]? := List.getElem?_set_ne (fun e => h (by rw [e]; exact List.mem_singleton.mpr rfl))
section
variable {X : Cx} {e : Expr} {es : List Expr} {pos : Pos}
theorem dg_name (i : Nat) {x : Str} (hN : X.N.Nodup) (hi : X.N[i]? = some x := by rfl) (hx : Loc X.env.scope x := by first | exact Or.inl rfl | exact Or.inr rfl) (hf : X.fn x = true ∨ X.env.scope.names.lookup x = some .local := by first | exact .inl rfl | exact .inr rfl | assumption) :
    DG X (.Name x pos) [i] (gVar i) := pg_imp (pg_name hN hi hx hf) fun v σ H Q ⟨Z, B, ρ, d, ρ', ok, dv, e, q⟩ => by
  cases e
  exact q _ (ok.setSh i dv) ⟨List.length_set, fun j hj => set_other hj⟩
theorem dgs_nil : DGs X [] [] gNo := pgs_imp pgs_nil fun vs σ H Q ⟨Z, B, ρ, ds, ρ', ok, dv, e, q⟩ => by
  unfold gNo at e
  split at e
  · cases e
    cases dv
    exact ⟨rfl, q σ ok ⟨rfl, fun _ _ => rfl⟩⟩
  · cases e
theorem dgs_cons {js ks : List Nat} {g : FG} {h : FGs} (h1 : DG X e js g) (h2 : DGs X es ks h) (hs : (assignEach (e :: es) X.env).map (·.2) = assign e X.env :: (assignEach es X.env).map (·.2) := by rfl) : DGs X (e :: es) (js ++ ks) (gCo g h) :=
  pgs_imp (pgs_cons h1 h2 hs) fun vs σ H Q ⟨Z, B, ρ, ds, ρ', ok, dv, e, q⟩ => by
  unfold gCo at e
  split at e
  · rename_i d ds'
    obtain ⟨ρ1, e1, e2⟩ := Option.bind_eq_some_iff.mp e
    cases dv with
    | cons d1 d2 =>
      exact ⟨_, _, rfl, Z, B, ρ, d, ρ1, ok, d1, e1, fun σ1 ok1 k1 => ⟨Z, B, ρ1, ds', ρ', ok1, d2, e2, fun σ2 ok2 k2 => q σ2 ok2 ⟨k2.len.trans k1.len, fun j hj => by
        rw [k2.out j fun z => hj (List.mem_append_right _ z), k1.out j fun z => hj (List.mem_append_left _ z)]⟩⟩⟩
  · cases e
theorem dg_tup {js : List Nat} {h : FGs} {k n : Nat} (hg : DGs X es js h) (hc : X.calm = true := by rfl) (hn : (assignEach es X.env).length = n := by rfl) (hst : (assignEach es X.env).findIdx? (·.1) = none := by rfl) : DG X (.Tuple es k pos) js (gTu n h) :=
  pg_imp (pg_tup hc hg hn hst) fun v σ H Q ⟨Z, B, ρ, d, ρ', ok, dv, e, q⟩ => by
  unfold gTu at e
  split at e
  · split at e
    · rename_i ds hl
      cases dv with
      | tup h1 h2 => exact ⟨_, _, rfl, SqT.of (ok.le _ _ h1), by rw [h2.length]; exact hl, Z, B, ρ, ds, ρ', ok, h2, e, q⟩
    · cases e
  · cases e
end

/-! ### statements -/
inductive Out where
  | nx (ρ : En)
  | rt (s : Sl) (ρ : En)
  | bk (ρ : En)
  | ct (ρ : En)
abbrev FS := En → Option Out
def OutOk (D : Ends) (Z : Zn) (B' : Hp) : Out → Prop
  | .nx ρ' => ∀ σ' H', EnvOk Z B' σ' H' ρ' → D.nx σ' H'
  | .rt s ρ' => ∀ σ' H' v, EnvOk Z B' σ' H' ρ' → RepR Z B' H' (NotOwn σ' ρ') v s → D.rt v H'
  | .bk ρ' => ∀ σ' H', EnvOk Z B' σ' H' ρ' → D.bk σ' H'
  | .ct ρ' => ∀ σ' H', EnvOk Z B' σ' H' ρ' → D.ct σ' H'
def tS (F : FS) : TS := fun D σ H => ∃ Z B ρ o, EnvOk Z B σ H ρ ∧ F ρ = some o ∧ ∀ B', Same B B' → OutOk D Z B' o
abbrev DS (X : Cx) (st : Stmt) (F : FS) := PS X st (tS F)
abbrev DSs (X : Cx) (st : List Stmt) (F : FS) := PSs X st (tS F)
theorem ps_imp {X : Cx} {st : Stmt} {t t' : TS} (h : PS X st t) (i : ∀ D σ H, t' D σ H → t D σ H) : PS X st t' := ⟨fun pins s σ H D I q => h.run pins s σ H D I (i D σ H q)⟩
theorem pss_imp {X : Cx} {st : List Stmt} {t t' : TS} (h : PSs X st t) (i : ∀ D σ H, t' D σ H → t D σ H) : PSs X st t' := ⟨fun pins s σ H D I q => h.run pins s σ H D I (i D σ H q)⟩

def fNext : FS := fun ρ => some (.nx ρ)
def fSeq (F G : FS) : FS := fun ρ => (F ρ).bind fun o => match o with
  | .nx ρ1 => G ρ1
  | o => some o
def fSet (i : Nat) (f : FR) : FS := fun ρ => (f ρ).map fun p => .nx (p.2.set i p.1)
def fAsg (g : FG) (f : FE) : FS := fun ρ => (f ρ).bind fun p => (g p.1 p.2).map .nx
def fRet (f : FR) : FS := fun ρ => (f ρ).map fun p => .rt p.1 p.2
def fRetN : FS := fun ρ => some (.rt (.sh .none) ρ)
def fIf (c : FT) (F G : FS) : FS := fun ρ => (c ρ).bind fun p => if p.1 = true then F p.2 else G p.2
def fDrop (f : FE) : FS := fun ρ => (f ρ).map fun p => .nx p.2
def fNev : FS := fun _ => none
section
variable {X : Cx} {st : Stmt} {rest : List Stmt} {F F2 : FS} {e : Expr} {f : FE} {r : FR} {pos : Pos}
theorem dss_nil : DSs X [] fNext := pss_imp pss_nil fun D σ H ⟨Z, B, ρ, o, ok, e, q⟩ => by
  cases e
  exact q B (Same.refl B) σ H ok
theorem dss_one (h : DS X st F) : DSs X [st] F := pss_one h
theorem dss_cons (h1 : DS X st F) (h2 : DSs X rest F2) : DSs X (st :: rest) (fSeq F F2) := pss_imp (pss_cons h1 h2) fun D σ H ⟨Z, B, ρ, o, ok, e, q⟩ => by
  unfold fSeq at e
  obtain ⟨o1, e1, e2⟩ := Option.bind_eq_some_iff.mp e
  refine ⟨Z, B, ρ, o1, ok, e1, fun B1 s1 => ?_⟩
  cases o1 with
  | nx ρ1 => exact fun σ1 H1 ok1 => ⟨Z, B1, ρ1, o, ok1, e2, fun B2 s2 => q B2 (s1.trans s2)⟩
  | rt s ρ1 =>
    cases e2
    exact q B1 s1
  | bk ρ1 =>
    cases e2
    exact q B1 s1
  | ct ρ1 =>
    cases e2
    exact q B1 s1
theorem EnvOk.setR {Z : Zn} {B : Hp} {σ : L2.St} {H : Hp} {ρ : En} {v : V} {s : Sl} (ok : EnvOk Z B σ H ρ) (i : Nat) (h : RepR Z B H (NotOwn σ ρ) v s) : EnvOk Z B (σ.set i (some v)) H (ρ.set i s) := by
  rcases h with ⟨d, rfl, h⟩ | ⟨a, o, rfl, h1, h2, h3, h4, h5, h6⟩
  · exact ok.setSh i h
  · exact ok.setOw i h1 h2 h3 h4 h5 fun z => by rw [z] at h6; cases h6
theorem ds_set (i : Nat) {x : Str} {pos' : Pos} (hN : X.N.Nodup) (he : DR X e r) (hi : X.N[i]? = some x := by rfl) (hx : Loc X.env.scope x := by first | exact Or.inl rfl | exact Or.inr rfl) (hs : swapsWith e (some (.Name x pos')) pos.line X.env = pure false := by rfl) (hf : X.fn x = true ∨ X.env.scope.names.lookup x = some .local := by first | exact .inl rfl | exact .inr rfl | assumption) :
    DS X (.Assign [.Name x pos'] e pos) (fSet i r) := ps_imp (ps_set hN hi hx he hs hf) fun D σ H ⟨Z, B, ρ, o, ok, e, q⟩ => by
  unfold fSet at e
  obtain ⟨⟨s, ρ1⟩, e1, e2⟩ := Option.map_eq_some_iff.mp e
  cases e2
  exact ⟨Z, B, ρ, s, ρ1, ok, e1, fun B1 H1 v s1 ok1 r1 => q B1 s1 _ H1 (ok1.setR i r1)⟩
theorem ds_asg {tg : Expr} {js : List Nat} {g : FG} (he : DE X e f) (hg : DG X tg js g) (hs : swapsWithSole [tg] e pos.line X.env = pure false := by rfl) (hw : swappedStores [tg] e X.env = pure none := by rfl)
    (h1 : (assignEach [tg] X.env).map (·.2) = [assign tg X.env] := by rfl) : DS X (.Assign [tg] e pos) (fAsg g f) := ps_imp (ps_asg he hg hs hw h1) fun D σ H ⟨Z, B, ρ, o, ok, e, q⟩ => by
  unfold fAsg at e
  obtain ⟨⟨d, ρ1⟩, e1, e2⟩ := Option.bind_eq_some_iff.mp e
  obtain ⟨ρ2, e3, e4⟩ := Option.map_eq_some_iff.mp e2
  cases e4
  exact ⟨Z, B, ρ, d, ρ1, ok, e1, fun B1 H1 v s1 ok1 dv => ⟨Z, B1, ρ1, d, ρ2, ok1, dv, e3, fun σ2 ok2 _ => q B1 s1 σ2 H1 ok2⟩⟩
theorem ds_ret (he : DR X e r) : DS X (.Return (some e) pos) (fRet r) := ps_imp (ps_ret he) fun D σ H ⟨Z, B, ρ, o, ok, e, q⟩ => by
  unfold fRet at e
  obtain ⟨⟨s, ρ1⟩, e1, e2⟩ := Option.map_eq_some_iff.mp e
  cases e2
  exact ⟨Z, B, ρ, s, ρ1, ok, e1, fun B1 H1 v s1 ok1 r1 => q B1 s1 σ H1 v ok1 r1⟩
theorem ds_retN : DS X (.Return none pos) fRetN := ps_imp ps_retN fun D σ H ⟨Z, B, ρ, o, ok, e, q⟩ => by
  cases e
  exact q B (Same.refl B) σ H _ ok (.inl ⟨_, rfl, .non⟩)
theorem ds_if {c : Expr} {a b : List Stmt} {u : FT} (hc : DT X c u) (ha : DSs X a F) (hb : DSs X b F2) : DS X (.If c a b pos) (fIf u F F2) := ps_imp (ps_if hc ha hb) fun D σ H ⟨Z, B, ρ, o, ok, e, q⟩ => by
  unfold fIf at e
  obtain ⟨⟨c, ρ1⟩, e1, e2⟩ := Option.bind_eq_some_iff.mp e
  refine ⟨Z, B, ρ, c, ρ1, ok, e1, fun B1 H1 s1 ok1 => ?_⟩
  cases c with
  | true =>
    rw [if_pos rfl] at e2 ⊢
    exact ⟨Z, B1, ρ1, o, ok1, e2, fun B2 s2 => q B2 (s1.trans s2)⟩
  | false =>
    rw [if_neg Bool.false_ne_true] at e2 ⊢
    exact ⟨Z, B1, ρ1, o, ok1, e2, fun B2 s2 => q B2 (s1.trans s2)⟩
theorem ds_drop (he : DE X e f) (hs : swapsWith e none pos.line X.env = pure false := by rfl) : DS X (.Expr e pos) (fDrop f) := ps_imp (ps_expr he hs) fun D σ H ⟨Z, B, ρ, o, ok, e, q⟩ => by
  unfold fDrop at e
  obtain ⟨⟨d, ρ1⟩, e1, e2⟩ := Option.map_eq_some_iff.mp e
  cases e2
  exact ⟨Z, B, ρ, d, ρ1, ok, e1, fun B1 H1 v s1 ok1 dv => q B1 s1 σ H1 ok1⟩
theorem ds_nev : DS X st fNev := ps_imp ps_never fun D σ H ⟨Z, B, ρ, o, ok, e, q⟩ => by cases e
theorem dss_nev : DSs X rest fNev := pss_imp pss_never fun D σ H ⟨Z, B, ρ, o, ok, e, q⟩ => by cases e
theorem ds_pass : DS X (.Pass pos) fNext := ps_imp ps_pass fun D σ H ⟨Z, B, ρ, o, ok, e, q⟩ => by
  cases e
  exact q B (Same.refl B) σ H ok

/-- an own object given away by its name -/
def fGive (i : Nat) : FR := fun ρ => match ρ[i]? with
  | some (.un) => none
  | some (.ad _) => none
  | some (.io _) => none
  | some (.lk _) => none
  | some (.lt _) => none
  | some (.pi) => none
  | some (.sh d) => some (.sh d, ρ)
  | some s => some (s, ρ.set i .un)
  | none => none
theorem give_own {Z : Zn} {B : Hp} {σ : L2.St} {H : Hp} {ρ : En} {i : Nat} {s : Sl} (ok : EnvOk Z B σ H ρ) (h : ρ[i]? = some s) (hs : isOwn s = true) (hio : isIo s = false) :
    ∃ a, σ[i]? = some (some (.ref a)) ∧ EnvOk Z B σ H (ρ.set i .un) ∧ RepR Z B H (NotOwn σ (ρ.set i .un)) (.ref a) s := by
  obtain ⟨a, o, q1, q2, q3, q4, q5⟩ := ok.ow i s h hs
  refine ⟨a, q1, ok.forget i, .inr ⟨a, o, rfl, q2, q3, q4, fun j t e1 e2 e3 => ?_, q5, hio⟩⟩
  rcases getElem?_set_cases e1 with ⟨rfl, z2, z3⟩ | ⟨z1, z2⟩
  · subst z2
    cases e2
  · exact z1 (ok.inj j i t s a z2 e2 h hs e3 q1)
theorem dr_give (i : Nat) {x : Str} (hN : X.N[i]? = some x := by rfl) (hv : Vis X.env.scope x := by first | exact Or.inl rfl | exact Or.inr (Or.inl rfl) | exact Or.inr (Or.inr rfl)) (hd : (x == ("__debug__" : Str)) = false := by decide)
    (hcd : (x == ("__classdict__" : Str)) = false := by decide) : DR X (.Name x pos) (fGive i) := pe_imp (pe_var hN hv hd hcd) fun σ H Q ⟨Z, B, ρ, s, ρ', ok, e, q⟩ => by
  unfold fGive at e
  split at e
  · cases e
  · cases e
  · cases e
  · cases e
  · cases e
  · cases e
  · rename_i d h1
    cases e
    obtain ⟨v, h2, h3⟩ := ok.sh i d h1
    exact ⟨v, h2, q B H v (Same.refl B) ok (.inl ⟨d, rfl, h3⟩)⟩
  · rename_i t n1 n2 n3 n5 n6 n7 n4 h1
    cases e
    have h2 : isOwn s = true := by
      cases s with
      | un => exact (n1 rfl).elim
      | ad v => exact (n2 v rfl).elim
      | lk v => exact (n5 v rfl).elim
      | lt v => exact (n6 v rfl).elim
      | pi => exact (n7 rfl).elim
      | sh d => exact (n4 d rfl).elim
      | _ => rfl
    have h3 : isIo s = false := by
      cases s with
      | io v => exact (n3 v rfl).elim
      | _ => rfl
    obtain ⟨a, q1, ok2, r2⟩ := give_own ok h1 h2 h3
    exact ⟨.ref a, q1, q B H _ (Same.refl B) ok2 r2⟩
  · cases e

/-! ### own lists changed -/
def fAppend (i : Nat) (f : FE) : FS := fun ρ => (f ρ).bind fun p => (ownL ρ[i]?).bind fun _ => (ownL p.2[i]?).bind fun xs =>
  if xs.length < 16777216 then some (.nx (p.2.set i (newL p.2[i]? (xs ++ [p.1])))) else none
def fExtend (i : Nat) (f : FE) : FS := fun ρ => (f ρ).bind fun p => (ownL ρ[i]?).bind fun _ => (ownL p.2[i]?).bind fun xs => match p.1 with
  | .list ys => if xs.length + ys.length ≤ 16777216 then some (.nx (p.2.set i (newL p.2[i]? (xs ++ ys)))) else none
  | _ => none
def fPut (i : Nat) (k : FE) (f : FE) : FS := fun ρ => (f ρ).bind fun p => (k p.2).bind fun q => (ownL p.2[i]?).bind fun _ => (ownL q.2[i]?).bind fun xs => match q.1 with
  | .int z => (ixN xs.length z).map fun j => .nx (q.2.set i (newL q.2[i]? (xs.set j p.1)))
  | _ => none
theorem ds_append (i : Nat) {x : Str} {px apos cpos : Pos} (he : DE X e f) (hN : X.N[i]? = some x := by rfl) (hv : Vis X.env.scope x := by first | exact Or.inl rfl | exact Or.inr (Or.inl rfl) | exact Or.inr (Or.inr rfl)) (hd : (x == ("__debug__" : Str)) = false := by decide)
    (hcd : (x == ("__classdict__" : Str)) = false := by decide)
    (hbase : attributeBase (.Name x px) "append" X.env (eval (.Name x px) X.env) = eval (.Name x px) X.env := by rfl)
    (hfew : ((backTo cpos (starEach [e] X.env)).all (fun x => !x.1) && (backToKw cpos (keywordEach [] X.env)).all (fun x => x.1.isSome)
      && decide ([e].length + ([] : List Keyword).length + (if ([] : List Keyword).isEmpty then 0 else 1) < 30)) = true := by rfl)
    (hline : (apos.endLine == cpos.line) = true := by rfl) (hs : starEach [e] X.env = (false, eval e X.env) :: starEach [] X.env := by rfl) (hplain : (backTo cpos (starEach [] X.env)).any (·.1) = false := by rfl)
    (hsw : swapsWith (.Call (.Attribute (.Name x px) "append" apos) [e] [] cpos) none pos.line X.env = pure false := by rfl) :
    DS X (.Expr (.Call (.Attribute (.Name x px) "append" apos) [e] [] cpos) pos) (fAppend i f) :=
  ps_imp (ps_expr (pe_bm PySem.F.plainAttrs_list PySem.F.slot_list_append PySem.F.type_list_append mt_append (pe_var hN hv hd hcd) (pa_cons he pa_nil hs) hbase hfew hline hs hplain) hsw) fun D σ H ⟨Z, B, ρ, o, ok, e, q⟩ => by
  unfold fAppend at e
  obtain ⟨⟨d, ρ1⟩, e1, e2⟩ := Option.bind_eq_some_iff.mp e
  obtain ⟨xs0, h0, e3⟩ := Option.bind_eq_some_iff.mp e2
  obtain ⟨xs, h1, e4⟩ := Option.bind_eq_some_iff.mp e3
  split at e4
  · rename_i hl
    cases e4
    obtain ⟨_, a0, vs0, _, _, g1, g2, _⟩ := own_at ok h0
    refine ⟨.ref a0, g1, .inl ⟨rfl, vs0, SqL.of g2⟩, Z, B, ρ, d, ρ1, ok, e1, fun B1 H1 v s1 ok1 dv => ?_⟩
    obtain ⟨t, a, vs, k6, k7, k1, k2, k3, k4, k5, k8⟩ := own_at ok1 h1
    have e5 := own_same g1 k1
    subst e5
    refine ⟨a0, vs, v, rfl, rfl, k2, by rw [k5.length]; exact hl, ?_⟩
    exact q B1 s1 σ _ (own_mut ok1 k6 k7 k1 k8 (DrAll.app k5 (.cons dv .nil)))
  · cases e4
theorem ds_extend (i : Nat) {x : Str} {px apos cpos : Pos} (he : DE X e f) (hN : X.N[i]? = some x := by rfl) (hv : Vis X.env.scope x := by first | exact Or.inl rfl | exact Or.inr (Or.inl rfl) | exact Or.inr (Or.inr rfl)) (hd : (x == ("__debug__" : Str)) = false := by decide)
    (hcd : (x == ("__classdict__" : Str)) = false := by decide)
    (hbase : attributeBase (.Name x px) "extend" X.env (eval (.Name x px) X.env) = eval (.Name x px) X.env := by rfl)
    (hfew : ((backTo cpos (starEach [e] X.env)).all (fun x => !x.1) && (backToKw cpos (keywordEach [] X.env)).all (fun x => x.1.isSome)
      && decide ([e].length + ([] : List Keyword).length + (if ([] : List Keyword).isEmpty then 0 else 1) < 30)) = true := by rfl)
    (hline : (apos.endLine == cpos.line) = true := by rfl) (hs : starEach [e] X.env = (false, eval e X.env) :: starEach [] X.env := by rfl) (hplain : (backTo cpos (starEach [] X.env)).any (·.1) = false := by rfl)
    (hsw : swapsWith (.Call (.Attribute (.Name x px) "extend" apos) [e] [] cpos) none pos.line X.env = pure false := by rfl) :
    DS X (.Expr (.Call (.Attribute (.Name x px) "extend" apos) [e] [] cpos) pos) (fExtend i f) :=
  ps_imp (ps_expr (pe_bm PySem.F.plainAttrs_list PySem.F.slot_list_extend PySem.F.type_list_extend mt_extend (pe_var hN hv hd hcd) (pa_cons he pa_nil hs) hbase hfew hline hs hplain) hsw) fun D σ H ⟨Z, B, ρ, o, ok, e, q⟩ => by
  unfold fExtend at e
  obtain ⟨⟨d, ρ1⟩, e1, e2⟩ := Option.bind_eq_some_iff.mp e
  obtain ⟨xs0, h0, e3⟩ := Option.bind_eq_some_iff.mp e2
  obtain ⟨xs, h1, e4⟩ := Option.bind_eq_some_iff.mp e3
  split at e4
  · rename_i ys h2
    split at e4
    · rename_i hl
      cases e4
      have e6 : d = .list ys := h2
      subst e6
      obtain ⟨_, a0, vs0, _, _, g1, g2, _⟩ := own_at ok h0
      refine ⟨.ref a0, g1, .inl ⟨rfl, vs0, SqL.of g2⟩, Z, B, ρ, _, ρ1, ok, e1, fun B1 H1 v s1 ok1 dv => ?_⟩
      obtain ⟨t, a, vs, k6, k7, k1, k2, k3, k4, k5, k8⟩ := own_at ok1 h1
      have e5 := own_same g1 k1
      subst e5
      cases dv with
      | lst h3 h4 =>
        refine ⟨a0, _, vs, _, rfl, rfl, k2, ok1.le _ _ h3, by rw [k5.length, h4.length]; exact hl, ?_⟩
        exact q B1 s1 σ _ (own_mut ok1 k6 k7 k1 k8 (DrAll.app k5 h4))
    · cases e4
  · cases e4
theorem ds_put (i : Nat) {x : Str} {px spos : Pos} {k : Expr} {g : FE} (he : DE X e f) (hk : DE X k g) (hN : X.N[i]? = some x := by rfl) (hv : Vis X.env.scope x := by first | exact Or.inl rfl | exact Or.inr (Or.inl rfl) | exact Or.inr (Or.inr rfl)) (hd : (x == ("__debug__" : Str)) = false := by decide)
    (hcd : (x == ("__classdict__" : Str)) = false := by decide)
    (ha : ∀ v, assign (.Subscript (.Name x px) k spos) X.env v = (do
      let ov ← holding [v] (eval (.Name x px) X.env)
      let iv ← holding [v, ov] (eval k X.env)
      standAt spos
      holding [v, ov, iv] (setItem ov iv v)
      release [v, ov, iv] []) := by intro _; rfl)
    (hs : swapsWithSole [.Subscript (.Name x px) k spos] e pos.line X.env = pure false := by rfl) (hw : swappedStores [.Subscript (.Name x px) k spos] e X.env = pure none := by rfl)
    (h1 : (assignEach [.Subscript (.Name x px) k spos] X.env).map (·.2) = [assign (.Subscript (.Name x px) k spos) X.env] := by rfl) :
    DS X (.Assign [.Subscript (.Name x px) k spos] e pos) (fPut i g f) :=
  ps_imp (ps_asg he (pg_sub (pe_var hN hv hd hcd) hk set_list ha) hs hw h1) fun D σ H ⟨Z, B, ρ, o, ok, e, q⟩ => by
  unfold fPut at e
  obtain ⟨⟨d, ρ1⟩, e1, e2⟩ := Option.bind_eq_some_iff.mp e
  obtain ⟨⟨z, ρ2⟩, e3, e4⟩ := Option.bind_eq_some_iff.mp e2
  obtain ⟨xs0, h0, e5⟩ := Option.bind_eq_some_iff.mp e4
  obtain ⟨xs, h1, e6⟩ := Option.bind_eq_some_iff.mp e5
  split at e6
  · rename_i y h2
    obtain ⟨j, e7, e8⟩ := Option.map_eq_some_iff.mp e6
    cases e8
    have e9 : z = .int y := h2
    subst e9
    refine ⟨Z, B, ρ, d, ρ1, ok, e1, fun B1 H1 v s1 ok1 dv => ?_⟩
    obtain ⟨_, a0, vs0, _, _, g1, g2, _⟩ := own_at ok1 h0
    refine ⟨.ref a0, g1, Z, B1, ρ1, _, ρ2, ok1, e3, fun B2 H2 w s2 ok2 dw => ?_⟩
    obtain ⟨t, a, vs, k6, k7, k1, k2, k3, k4, k5, k8⟩ := own_at ok2 h1
    have e5' := own_same g1 k1
    subst e5'
    cases dw
    refine ⟨a0, vs, y, j, rfl, rfl, k2, by rw [k5.length]; exact e7, ?_⟩
    exact q B2 (s1.trans s2) σ _ (own_mut ok2 k6 k7 k1 k8 (DrAll.set (dv.mono s2) j k5))
  · cases e6
end

/-! GLoop: what is walked, for, comprehensions, defs and their calls. -/

/-! ### what is walked -/
/-- the items of a walk are these data, whatever the body does -/
def Wk (J : It) (B0 : Hp) (ds : List PyData) : Prop := ∀ (Z : Zn) (B : Hp) (σ : L2.St) (H : Hp) (ρ : En) (i : Nat), Same B0 B → EnvOk Z B σ H ρ →
  (i = ds.length → J.stop i H) ∧ ∀ d, ds[i]? = some d → J.go i H ∧ ∀ x H', J.yld i H x H' → ∃ B', Same B B' ∧ EnvOk Z B' σ H' ρ ∧ Dr B' x d
abbrev FI := En → Option (List PyData × En)
def tI (f : FI) : TI := fun σ H R => ∃ Z B ρ ds ρ', EnvOk Z B σ H ρ ∧ f ρ = some (ds, ρ') ∧ ∀ B' H' J, Same B B' → EnvOk Z B' σ H' ρ' → Wk J B' ds → R J H'
abbrev DI (X : Cx) (tg iter : Expr) (f : FI) := PI X tg iter (tI f)
theorem pi_imp {X : Cx} {tg iter : Expr} {t t' : TI} (h : PI X tg iter t) (i : ∀ σ H R, t' σ H R → t σ H R) : PI X tg iter t' := ⟨fun pins s σ H R I q => h.run pins s σ H R I (i σ H R q)⟩
/-- the items of a list or a tuple -/
def itemsD : PyData → Option (List PyData)
  | .list xs => some xs
  | .tuple xs => some xs
  | _ => none
def fItems (f : FE) : FI := fun ρ => (f ρ).bind fun p => (itemsD p.1).map fun xs => (xs, p.2)
theorem wk_list {K : PySem.W.Frag} {B : Hp} {a : Addr} {vs : List V} {ds : List PyData} (h : B a = some (.lst vs)) (hd : DrAll B vs ds) : Wk (Itl K a) B ds := fun Z B1 σ H ρ i s1 ok => by
  have hq : SqL K H a vs := SqL.of (ok.le _ _ (s1 _ _ h))
  refine ⟨fun e => ⟨vs, hq, by rw [hd.length, e]; exact Nat.le_refl _⟩, fun d e => ?_⟩
  obtain ⟨v, h1, h2⟩ := hd.get e
  refine ⟨⟨vs, v, hq, h1⟩, fun x H' ⟨e1, e2⟩ => ?_⟩
  subst e1
  have e3 := e2 vs hq
  rw [h1] at e3
  cases e3
  exact ⟨B1, Same.refl B1, ok, h2.mono s1⟩
theorem wk_tup {K : PySem.W.Frag} {B : Hp} {a : Addr} {vs : List V} {ds : List PyData} (h : B a = some (.tup vs)) (hd : DrAll B vs ds) : Wk (Itt K a) B ds := fun Z B1 σ H ρ i s1 ok => by
  have hq : SqT K H a vs := SqT.of (ok.le _ _ (s1 _ _ h))
  refine ⟨fun e => ⟨vs, hq, by rw [hd.length, e]; exact Nat.le_refl _⟩, fun d e => ?_⟩
  obtain ⟨v, h1, h2⟩ := hd.get e
  refine ⟨⟨vs, v, hq, h1⟩, fun x H' ⟨e1, e2⟩ => ?_⟩
  subst e1
  have e3 := e2 vs hq
  rw [h1] at e3
  cases e3
  exact ⟨B1, Same.refl B1, ok, h2.mono s1⟩
section
variable {X : Cx} {tg e e2 : Expr} {f g : FE} {pos : Pos}
theorem di_seq (he : DE X e f) : DI X tg e (fItems f) := ⟨fun pins s σ H R I h => by
  obtain ⟨Z, B, ρ, ds, ρ', ok, q0, q⟩ := h
  unfold fItems at q0
  obtain ⟨⟨d, ρ1⟩, e1, e2⟩ := Option.bind_eq_some_iff.mp q0
  obtain ⟨xs, e3, e4⟩ := Option.map_eq_some_iff.mp e2
  cases e4
  cases d with
  | list ys =>
    cases e3
    refine (pi_list he).run pins s σ H R I ⟨Z, B, ρ, _, _, ok, e1, fun B1 H1 v s1 ok1 dv => ?_⟩
    cases dv with
    | lst h1 h2 => exact ⟨_, rfl, ⟨_, SqL.of (ok1.le _ _ h1)⟩, q B1 H1 _ s1 ok1 (wk_list h1 h2)⟩
  | tuple ys =>
    cases e3
    refine (pi_tup he).run pins s σ H R I ⟨Z, B, ρ, _, _, ok, e1, fun B1 H1 v s1 ok1 dv => ?_⟩
    cases dv with
    | tup h1 h2 => exact ⟨_, rfl, ⟨_, SqT.of (ok1.le _ _ h1)⟩, q B1 H1 _ s1 ok1 (wk_tup h1 h2)⟩
  | _ => cases e3⟩
/-- range -/
def rangeD (lo : Int) (n : Nat) : List PyData := (List.range n).map fun (k : Nat) => PyData.int (lo + (k : Int))
theorem wk_rng {B : Hp} (lo : Int) (n : Nat) : Wk (Itr lo n) B (rangeD lo n) := fun Z B1 σ H ρ i s1 ok => by
  have hl : (rangeD lo n).length = n := by unfold rangeD; rw [List.length_map, List.length_range]
  refine ⟨fun e => by rw [hl] at e; exact Nat.le_of_eq e.symm, fun d e => ?_⟩
  have hi : i < n := by rw [← hl]; exact (List.getElem?_eq_some_iff.mp e).1
  refine ⟨hi, fun x H' ⟨e1, e2⟩ => ?_⟩
  subst e1 e2
  unfold rangeD at e
  rw [List.getElem?_map, List.getElem?_range hi] at e
  cases e
  exact ⟨B1, Same.refl B1, ok, .int _⟩
def rg1 : List PyData → Option (List PyData)
  | [.int j] => if -4611686018427387904 ≤ j ∧ j < 4611686018427387904 then some (rangeD 0 j.toNat) else none
  | _ => none
def rg2 : List PyData → Option (List PyData)
  | [.int i, .int j] => if -4611686018427387904 ≤ i ∧ i < 4611686018427387904 ∧ -4611686018427387904 ≤ j ∧ j < 4611686018427387904 then some (rangeD i (j - i).toNat) else none
  | _ => none
def fRg (h : List PyData → Option (List PyData)) (k : FA) : FI := fun ρ => (k ρ).bind fun p => (h p.1).map fun xs => (xs, p.2)
theorem p62 : (2 : Int) ^ 62 = 4611686018427387904 := by decide
theorem di_rg1 {p : Pos} {k : FA} (hm : X.mg "range" = none) (ha : DA X [e] k) (hg : Gl X "range" := by rfl) (hs : starEach [e] X.env = [(false, eval e X.env)] := by rfl) : DI X tg (.Call (.Name "range" p) [e] [] pos) (fRg rg1 k) := pi_imp (pi_range1 hg hm ha hs) fun σ H R ⟨Z, B, ρ, ds, ρ', ok, q0, q⟩ => by
  unfold fRg at q0
  obtain ⟨⟨d, ρ1⟩, e1, e2⟩ := Option.bind_eq_some_iff.mp q0
  obtain ⟨xs, e3, e4⟩ := Option.map_eq_some_iff.mp e2
  cases e4
  refine ⟨Z, B, ρ, d, _, ok, e1, fun B1 H1 vs s1 ok1 dv => ?_⟩
  replace e3 : rg1 d = some _ := e3
  unfold rg1 at e3
  split at e3
  · split at e3
    · rename_i j hj
      cases e3
      obtain ⟨v, rfl, h1⟩ := drAll_one dv
      cases h1
      exact ⟨j, rfl, by rw [p62]; exact hj.1, by rw [p62]; exact hj.2, q B1 H1 _ s1 ok1 (wk_rng 0 j.toNat)⟩
    · cases e3
  · cases e3
theorem di_rg2 {p : Pos} {k : FA} (hm : X.mg "range" = none) (ha : DA X [e, e2] k) (hg : Gl X "range" := by rfl) (hs : starEach [e, e2] X.env = [(false, eval e X.env), (false, eval e2 X.env)] := by rfl) (hs2 : starEach [e2] X.env = [(false, eval e2 X.env)] := by rfl) :
    DI X tg (.Call (.Name "range" p) [e, e2] [] pos) (fRg rg2 k) := pi_imp (pi_range2 hg hm ha hs hs2) fun σ H R ⟨Z, B, ρ, ds, ρ', ok, q0, q⟩ => by
  unfold fRg at q0
  obtain ⟨⟨d, ρ1⟩, e1, e2⟩ := Option.bind_eq_some_iff.mp q0
  obtain ⟨xs, e3, e4⟩ := Option.map_eq_some_iff.mp e2
  cases e4
  refine ⟨Z, B, ρ, d, _, ok, e1, fun B1 H1 vs s1 ok1 dv => ?_⟩
  replace e3 : rg2 d = some _ := e3
  unfold rg2 at e3
  split at e3
  · split at e3
    · rename_i i j hj
      cases e3
      obtain ⟨v, w, rfl, h1, h2⟩ := drAll_two dv
      cases h1
      cases h2
      rw [← p62] at hj
      exact ⟨i, j, rfl, hj, q B1 H1 _ s1 ok1 (wk_rng i (j - i).toNat)⟩
    · cases e3
  · cases e3
/-- zip of two lists, of two tuples -/
def zipD (xs ys : List PyData) : List PyData := List.zipWith (fun x y => PyData.tuple [x, y]) xs ys
def zp2 : List PyData → Option (List PyData)
  | [.list xs, .list ys] => some (zipD xs ys)
  | [.tuple xs, .tuple ys] => some (zipD xs ys)
  | _ => none
theorem zip_stop {α β : Type} {vs : List α} {ws : List β} {xs ys : List PyData} {i : Nat} (h1 : vs.length = xs.length) (h2 : ws.length = ys.length) (e : i = (zipD xs ys).length) : vs.length ≤ i ∨ ws.length ≤ i := by
  unfold zipD at e
  rw [List.length_zipWith] at e
  omega
theorem zip_at {xs ys : List PyData} {i : Nat} {d : PyData} (e : (zipD xs ys)[i]? = some d) : ∃ x y, xs[i]? = some x ∧ ys[i]? = some y ∧ d = .tuple [x, y] := by
  unfold zipD at e
  rw [List.getElem?_zipWith] at e
  cases h1 : xs[i]? with
  | none =>
    rw [h1] at e
    cases e
  | some x =>
    cases h2 : ys[i]? with
    | none =>
      rw [h1, h2] at e
      cases e
    | some y =>
      rw [h1, h2] at e
      cases e
      exact ⟨x, y, rfl, rfl, rfl⟩
theorem pair_new {Z : Zn} {B : Hp} {σ : L2.St} {H : Hp} {ρ : En} {T : Addr} {x y : V} {d e : PyData} (ok : EnvOk Z B σ H ρ) (hT : H T = none) (hx : Dr B x d) (hy : Dr B y e) :
    ∃ B', Same B B' ∧ EnvOk Z B' σ (upd H T (.tup [x, y])) ρ ∧ Dr B' (.ref T) (.tuple [d, e]) := by
  obtain ⟨s, ok2, d2⟩ := lay_tup ok (.cons hx (.cons hy .nil)) hT
  exact ⟨_, s, ok2, d2⟩
theorem wk_zipL {K : PySem.W.Frag} {B : Hp} {a b : Addr} {vs ws : List V} {xs ys : List PyData} (h : B a = some (.lst vs)) (hd : DrAll B vs xs) (h' : B b = some (.lst ws)) (hd' : DrAll B ws ys) : Wk (Itz K a b) B (zipD xs ys) := fun Z B1 σ H ρ i s1 ok => by
  have hq : SqL K H a vs := SqL.of (ok.le _ _ (s1 _ _ h))
  have hq' : SqL K H b ws := SqL.of (ok.le _ _ (s1 _ _ h'))
  refine ⟨fun e => ⟨vs, ws, hq, hq', zip_stop hd.length hd'.length e⟩, fun d e => ?_⟩
  obtain ⟨x, y, e1, e2, rfl⟩ := zip_at e
  obtain ⟨v, h1, h2⟩ := hd.get e1
  obtain ⟨w, h3, h4⟩ := hd'.get e2
  refine ⟨⟨vs, ws, v, w, hq, hq', h1, h3⟩, fun z H' ⟨T, v', w', e3, e4, e5, e6, e7⟩ => ?_⟩
  have e8 := e6 vs hq
  have e9 := e7 ws hq'
  rw [h1] at e8
  rw [h3] at e9
  cases e8
  cases e9
  subst e3 e5
  exact pair_new ok e4 (h2.mono s1) (h4.mono s1)
theorem wk_zipT {K : PySem.W.Frag} {B : Hp} {a b : Addr} {vs ws : List V} {xs ys : List PyData} (h : B a = some (.tup vs)) (hd : DrAll B vs xs) (h' : B b = some (.tup ws)) (hd' : DrAll B ws ys) : Wk (RZ.ItzT K a b) B (zipD xs ys) := fun Z B1 σ H ρ i s1 ok => by
  have hq : SqT K H a vs := SqT.of (ok.le _ _ (s1 _ _ h))
  have hq' : SqT K H b ws := SqT.of (ok.le _ _ (s1 _ _ h'))
  refine ⟨fun e => ⟨vs, ws, hq, hq', zip_stop hd.length hd'.length e⟩, fun d e => ?_⟩
  obtain ⟨x, y, e1, e2, rfl⟩ := zip_at e
  obtain ⟨v, h1, h2⟩ := hd.get e1
  obtain ⟨w, h3, h4⟩ := hd'.get e2
  refine ⟨⟨vs, ws, v, w, hq, hq', h1, h3⟩, fun z H' ⟨T, v', w', e3, e4, e5, e6, e7⟩ => ?_⟩
  have e8 := e6 vs hq
  have e9 := e7 ws hq'
  rw [h1] at e8
  rw [h3] at e9
  cases e8
  cases e9
  subst e3 e5
  exact pair_new ok e4 (h2.mono s1) (h4.mono s1)
theorem di_zip {p tpos : Pos} {elts : List Expr} {kk : Nat} {k : FA} (hm : X.mg "zip" = none) (ha : DA X [e, e2] k) (hg : Gl X "zip" := by rfl) (hs : starEach [e, e2] X.env = (false, eval e X.env) :: starEach [e2] X.env := by rfl) (hpl : (backTo pos (starEach [e2] X.env)).any (·.1) = false := by rfl) :
    DI X (.Tuple elts kk tpos) (.Call (.Name "zip" p) [e, e2] [] pos) (fRg zp2 k) := pi_imp (RZ.pi_zipA hg hm ha hs hpl) fun σ H R ⟨Z, B, ρ, ds, ρ', ok, q0, q⟩ => by
  unfold fRg at q0
  obtain ⟨⟨d, ρ1⟩, e1, e2⟩ := Option.bind_eq_some_iff.mp q0
  obtain ⟨xs, e3, e4⟩ := Option.map_eq_some_iff.mp e2
  cases e4
  refine ⟨Z, B, ρ, d, _, ok, e1, fun B1 H1 vs s1 ok1 dv => ?_⟩
  replace e3 : zp2 d = some _ := e3
  unfold zp2 at e3
  split at e3
  · cases e3
    obtain ⟨v, w, rfl, h1, h2⟩ := drAll_two dv
    cases h1 with
    | lst g1 g2 =>
      cases h2 with
      | lst g3 g4 => exact ⟨_, _, _, _, rfl, .inl ⟨SqL.of (ok1.le _ _ g1), SqL.of (ok1.le _ _ g3), q B1 H1 _ s1 ok1 (wk_zipL g1 g2 g3 g4)⟩⟩
  · cases e3
    obtain ⟨v, w, rfl, h1, h2⟩ := drAll_two dv
    cases h1 with
    | tup g1 g2 =>
      cases h2 with
      | tup g3 g4 => exact ⟨_, _, _, _, rfl, .inr ⟨SqT.of (ok1.le _ _ g1), SqT.of (ok1.le _ _ g3), q B1 H1 _ s1 ok1 (wk_zipT g1 g2 g3 g4)⟩⟩
  · cases e3
/-- enumerate of a list -/
def enumD : Nat → List PyData → List PyData
  | _, [] => []
  | k, x :: xs => .tuple [.int (k : Int), x] :: enumD (k + 1) xs
theorem enumD_length : ∀ (xs : List PyData) (k : Nat), (enumD k xs).length = xs.length
  | [], _ => rfl
  | x :: xs, k => by
    show (enumD (k + 1) xs).length + 1 = xs.length + 1
    rw [enumD_length xs]
theorem enumD_at : ∀ (xs : List PyData) (k i : Nat) (d : PyData), (enumD k xs)[i]? = some d → ∃ x, xs[i]? = some x ∧ d = .tuple [.int ((k + i : Nat) : Int), x]
  | [], _, _, _, h => by simp [enumD] at h
  | x :: xs, k, 0, d, h => by
    have h1 : some (PyData.tuple [.int (k : Int), x]) = some d := h
    cases h1
    exact ⟨x, rfl, rfl⟩
  | x :: xs, k, i + 1, d, h => by
    obtain ⟨y, h1, h2⟩ := enumD_at xs (k + 1) i d h
    exact ⟨y, h1, by rw [h2, show k + 1 + i = k + (i + 1) by omega]⟩
def en1 : List PyData → Option (List PyData)
  | [.list xs] => some (enumD 0 xs)
  | _ => none
theorem di_enum {p tpos : Pos} {elts : List Expr} {kk : Nat} {k : FA} (hm : X.mg "enumerate" = none) (ha : DA X [e] k) (hg : Gl X "enumerate" := by rfl) (hs : starEach [e] X.env = [(false, eval e X.env)] := by rfl) :
    DI X (.Tuple elts kk tpos) (.Call (.Name "enumerate" p) [e] [] pos) (fRg en1 k) := pi_imp (pi_enum hg hm ha hs) fun σ H R ⟨Z, B, ρ, ds, ρ', ok, q0, q⟩ => by
  unfold fRg at q0
  obtain ⟨⟨d, ρ1⟩, e1, e2⟩ := Option.bind_eq_some_iff.mp q0
  obtain ⟨xs, e3, e4⟩ := Option.map_eq_some_iff.mp e2
  cases e4
  refine ⟨Z, B, ρ, d, _, ok, e1, fun B1 H1 vs s1 ok1 dv => ?_⟩
  replace e3 : en1 d = some _ := e3
  unfold en1 at e3
  split at e3
  · cases e3
    obtain ⟨v, rfl, h1⟩ := drAll_one dv
    cases h1 with
    | lst g1 g2 =>
      refine ⟨_, _, rfl, SqL.of (ok1.le _ _ g1), q B1 H1 _ s1 ok1 fun Z B2 σ H ρ i s2 ok2 => ?_⟩
      have hq := SqL.of (K := X.K) (ok2.le _ _ (s2 _ _ g1))
      refine ⟨fun e => ⟨_, hq, by rw [enumD_length] at e; rw [g2.length, e]; exact Nat.le_refl _⟩, fun d e => ?_⟩
      obtain ⟨x, e5, rfl⟩ := enumD_at _ _ _ _ e
      obtain ⟨v, h3, h4⟩ := g2.get e5
      refine ⟨⟨_, v, hq, h3⟩, fun z H' ⟨T, v', e6, e7, e8, e9⟩ => ?_⟩
      have e10 := e9 _ hq
      rw [h3] at e10
      cases e10
      subst e6 e8
      rw [Nat.zero_add]
      exact pair_new ok2 e7 (.int _) (h4.mono s2)
  · cases e3
end

/-! ### for -/
def forL (g : FG) (body : FS) : List PyData → En → Option Out
  | [], ρ => some (.nx ρ)
  | d :: ds, ρ => (g d ρ).bind fun ρ1 => (body ρ1).bind fun o => match o with
    | .nx ρ2 => forL g body ds ρ2
    | .ct ρ2 => forL g body ds ρ2
    | .bk ρ2 => some (.nx ρ2)
    | .rt s ρ2 => some (.rt s ρ2)
def fFor (it : FI) (g : FG) (body : FS) : FS := fun ρ => (it ρ).bind fun p => forL g body p.1 p.2
theorem drop_at {α : Type} {ds : List α} {i : Nat} (h : i < ds.length) : ∃ d, ds[i]? = some d ∧ ds.drop i = d :: ds.drop (i + 1) := ⟨ds[i], List.getElem?_eq_getElem h, List.drop_eq_getElem_cons h⟩
theorem ds_for {X : Cx} {tg iter : Expr} {body : List Stmt} {it : FI} {js : List Nat} {g : FG} {F : FS} {pos : Pos} (hi : DI X tg iter it) (hg : DG X tg js g) (hb : DSs X body F) (hc : X.calm = true := by rfl) (hp : PassesOwn (model X.prog X.w) X.A X.env X.xe := by exact PassesOwn.never)
    (hs : ∀ x, foldedSetIterable iter X.env x = pure x := by intro _; rfl) : DS X (.For tg iter body [] pos) (fFor it g F) := ps_imp (ps_for hp hc hi hg hb hs) fun D σ H ⟨Z, B, ρ, o, ok, q0, q⟩ => by
  unfold fFor at q0
  obtain ⟨⟨ds, ρ1⟩, e1, e2⟩ := Option.bind_eq_some_iff.mp q0
  refine ⟨Z, B, ρ, ds, ρ1, ok, e1, fun B1 H1 J s1 ok1 wk => ?_⟩
  refine ⟨fun i m σ2 H2 => m = ds.length - i ∧ i ≤ ds.length ∧ ∃ B2 ρ2, Same B1 B2 ∧ EnvOk Z B2 σ2 H2 ρ2 ∧ forL g F (ds.drop i) ρ2 = some o, ⟨ds.length, by simp, Nat.zero_le _, B1, ρ1, Same.refl B1, ok1, by rw [List.drop_zero]; exact e2⟩, fun i m σ2 H2 hW => ?_⟩
  obtain ⟨rfl, hi, B2, ρ2, s2, ok2, hf⟩ := hW
  by_cases h : i < ds.length
  · obtain ⟨d, h1, h2⟩ := drop_at h
    rw [h2] at hf
    obtain ⟨ρ3, e3, e4⟩ := Option.bind_eq_some_iff.mp hf
    obtain ⟨o3, e5, e6⟩ := Option.bind_eq_some_iff.mp e4
    obtain ⟨go, yl⟩ := (wk Z B2 σ2 H2 ρ2 i s2 ok2).2 d h1
    refine .inr ⟨go, fun σ' H' => ∃ B4 ρ4, Same B1 B4 ∧ EnvOk Z B4 σ' H' ρ4 ∧ forL g F (ds.drop (i + 1)) ρ4 = some o, fun σ' H' hN => ⟨ds.length - (i + 1), by omega, rfl, h, hN⟩, fun x H' hy => ?_⟩
    obtain ⟨B3, s3, ok3, dx⟩ := yl x H' hy
    refine ⟨Z, B3, ρ2, d, ρ3, ok3, dx, e3, fun σ3 ok4 _ => ⟨Z, B3, ρ3, o3, ok4, e5, fun B4 s4 => ?_⟩⟩
    cases o3 with
    | nx ρ4 => exact fun σ5 H5 ok5 => ⟨B4, ρ4, s2.trans (s3.trans s4), ok5, e6⟩
    | ct ρ4 => exact fun σ5 H5 ok5 => ⟨B4, ρ4, s2.trans (s3.trans s4), ok5, e6⟩
    | bk ρ4 =>
      cases e6
      exact q B4 (s1.trans (s2.trans (s3.trans s4)))
    | rt s ρ4 =>
      cases e6
      exact q B4 (s1.trans (s2.trans (s3.trans s4)))
  · have e : i = ds.length := by omega
    rw [e, List.drop_length] at hf
    cases hf
    exact .inl ⟨(wk Z B2 σ2 H2 ρ2 i s2 ok2).1 e, q B2 (s1.trans s2) σ2 H2 ok2⟩

/-! ### comprehensions -/
def wipeE (ρ : En) : List Nat → En
  | [] => ρ
  | v :: vs => (wipeE ρ vs).set v .un
theorem wipeE_at {ρ : En} {i : Nat} {s : Sl} : ∀ {vs : List Nat}, (wipeE ρ vs)[i]? = some s → s = .un ∨ (i ∉ vs ∧ ρ[i]? = some s)
  | [], h => .inr ⟨by simp, h⟩
  | v :: vs, h => by
    rcases getElem?_set_cases h with ⟨rfl, h2, h3⟩ | ⟨h1, h2⟩
    · exact .inl h2
    · rcases wipeE_at h2 with h3 | ⟨h3, h4⟩
      · exact .inl h3
      · exact .inr ⟨fun z => (List.mem_cons.mp z).elim h1 h3, h4⟩
theorem wipeE_length (ρ : En) : ∀ vs : List Nat, (wipeE ρ vs).length = ρ.length
  | [] => rfl
  | v :: vs => by
    show ((wipeE ρ vs).set v .un).length = ρ.length
    rw [List.length_set, wipeE_length ρ vs]
theorem EnvOk.swap {Z : Zn} {B : Hp} {σ σ' : L2.St} {H : Hp} {ρ : En} {vs : List Nat} (ok : EnvOk Z B σ' H ρ) (hl : σ.length = σ'.length) (h : ∀ j, j ∉ vs → σ[j]? = σ'[j]?) : EnvOk Z B σ H (wipeE ρ vs) := by
  refine ⟨ok.le, ok.lz, ok.dj, by rw [wipeE_length, hl]; exact ok.len, fun i d e => ?_, fun i s e1 e2 => ?_, fun i xs e => ?_, fun i v e => ?_, fun i j s t a e1 e2 e3 e4 e5 e6 => ?_, ok.tb⟩
  · rcases wipeE_at e with z | ⟨h1, h2⟩
    · cases z
    · rw [h i h1]
      exact ok.sh i d h2
  · rcases wipeE_at e1 with z | ⟨h1, h2⟩
    · subst z
      cases e2
    · rw [h i h1]
      exact ok.ow i s h2 e2
  · rcases wipeE_at e with z | ⟨h1, h2⟩
    · cases z
    · rw [h i h1]
      exact ok.io i xs h2
  · rcases wipeE_at e with z | ⟨h1, h2⟩
    · cases z
      exact trivial
    · rw [h i h1]
      exact ok.ad i v h2
  · rcases wipeE_at e1 with z | ⟨h1, h2⟩
    · subst z
      cases e2
    · rcases wipeE_at e3 with z | ⟨h3, h4⟩
      · subst z
        cases e4
      · rw [h i h1] at e5
        rw [h j h3] at e6
        exact ok.inj i j s t a h2 e2 h4 e4 e5 e6
theorem wipe_in {σ : L2.St} {i : Nat} : ∀ {vs : List Nat}, i ∈ vs → (wipe σ vs)[i]? = if i < σ.length then some none else none
  | v :: vs, h => by
    unfold wipe
    by_cases e : v = i
    · subst e
      by_cases hl : v < σ.length
      · rw [List.getElem?_set_self (by rw [wipe_length]; exact hl), if_pos hl]
      · rw [List.getElem?_eq_none (by rw [List.length_set, wipe_length]; omega), if_neg hl]
    · rw [List.getElem?_set_ne e]
      exact wipe_in ((List.mem_cons.mp h).resolve_left (Ne.symm e))
theorem wipe_eq {σ σ' : L2.St} {vs : List Nat} (hl : σ.length = σ'.length) (h : ∀ j, j ∉ vs → σ[j]? = σ'[j]?) : wipe σ vs = wipe σ' vs := by
  apply List.ext_getElem?
  intro i
  by_cases e : i ∈ vs
  · rw [wipe_in e, wipe_in e, hl]
  · rw [wipe_out e, wipe_out e]
    exact h i e
theorem wipe_wipe (σ : L2.St) (vs : List Nat) : wipe (wipe σ vs) vs = wipe σ vs := wipe_eq (wipe_length σ vs) fun j hj => wipe_out hj
def lcL (vs : List Nat) (g : FG) (tt : FT) (te : FE) : List PyData → En → Option (List PyData × En)
  | [], ρ => some ([], ρ)
  | d :: ds, ρ => (g d ρ).bind fun ρ1 => (tt ρ1).bind fun p => if p.1 = true then (te p.2).bind fun q => (lcL vs g tt te ds (wipeE q.2 vs)).map fun r => (q.1 :: r.1, r.2) else lcL vs g tt te ds (wipeE p.2 vs)
def fLc (vs : List Nat) (it : FI) (g : FG) (tt : FT) (te : FE) : FR := fun ρ => (it ρ).bind fun p => if p.1.length ≤ 16000000 then (lcL vs g tt te p.1 (wipeE p.2 vs)).map fun r => (.ow r.1, wipeE r.2 vs) else none
def fYes : FT := fun ρ => some (true, ρ)
abbrev DTs (X : Cx) (ifs : List Expr) (f : FT) := PTs X ifs (tT f)
theorem dts_nil {X : Cx} : DTs X [] fYes := ⟨fun pins s σ H Q I h => (pts_nil (X := X)).run pins s σ H Q I (by
  obtain ⟨Z, B, ρ, b, ρ', ok, e, q⟩ := h
  cases e
  exact q B H (Same.refl B) ok)⟩
theorem dts_one {X : Cx} {c : Expr} {f : FT} (h : DT X c f) : DTs X [c] f := pts_one h
theorem sz16 {n : Nat} (h : n ≤ 16000000) : n < sizeLine := Nat.lt_of_le_of_lt h (by decide)
theorem tLc_of {it : FI} {g : FG} {tt : FT} {te : FE} {vs js : List Nat} (hj : ∀ j ∈ js, j ∈ vs) : ∀ σ H Q, tR (fLc vs it g tt te) σ H Q → tLc (tI it) (tG js g) (tT tt) (tE te) vs σ H Q := fun σ H Q ⟨Z, B, ρ, s, ρ', ok, q0, q⟩ => by
  unfold fLc at q0
  obtain ⟨⟨ds, ρ1⟩, e1, e2⟩ := Option.bind_eq_some_iff.mp q0
  split at e2
  · rename_i hlen
    obtain ⟨⟨ys, ρe⟩, e3, e4⟩ := Option.map_eq_some_iff.mp e2
    cases e4
    refine ⟨Z, B, ρ, ds, ρ1, ok, e1, fun B1 H1 J s1 ok1 wk D hD => ?_⟩
    have zD : Z.fr D = none := ok1.lz.free hD
    have bD : B1 D = none := ok1.le.free hD
    have start : EnvOk (Z.upd D (.lst [])) B1 (wipe σ vs) (upd H1 D (.lst [])) (wipeE ρ1 vs) := by
      have h1 : EnvOk Z B1 (wipe σ vs) H1 (wipeE ρ1 vs) := ok1.swap (wipe_length σ vs) fun j hj => wipe_out hj
      exact (h1.junk hD).keep upd_same bD (NotOwn.new h1 hD)
    refine ⟨fun i m H2 => m = ds.length - i ∧ i ≤ ds.length ∧ ∃ B2 ρ2 acc accV rest, Same B1 B2 ∧ EnvOk (Z.upd D (.lst accV)) B2 (wipe σ vs) H2 ρ2 ∧ DrAll B2 accV acc ∧ acc.length ≤ i ∧ lcL vs g tt te (ds.drop i) ρ2 = some (rest, ρe) ∧ acc ++ rest = ys,
      ⟨ds.length, by simp, Nat.zero_le _, B1, _, [], [], ys, Same.refl B1, start, .nil, Nat.le_refl _, by rw [List.drop_zero]; exact e3, rfl⟩, fun i m H2 hW => ?_⟩
    obtain ⟨rfl, hi, B2, ρ2, acc, accV, rest, s2, ok2, da, hl, hf, hy⟩ := hW
    have hDz : (Z.upd D (.lst accV)).fr D = some (.lst accV) := upd_same
    have sz : Same Z.fr (Z.upd D (.lst accV)).fr := same_upd_new zD
    by_cases h : i < ds.length
    · obtain ⟨d, h1, h2⟩ := drop_at h
      rw [h2] at hf
      obtain ⟨ρ3, e5, e6⟩ := Option.bind_eq_some_iff.mp hf
      obtain ⟨⟨b, ρ4⟩, e7, e8⟩ := Option.bind_eq_some_iff.mp e6
      obtain ⟨go, yl⟩ := (wk _ B2 (wipe σ vs) H2 ρ2 i s2 ok2).2 d h1
      refine .inr ⟨go, fun H' => ∃ B3 ρ3 acc accV rest, Same B1 B3 ∧ EnvOk (Z.upd D (.lst accV)) B3 (wipe σ vs) H' ρ3 ∧ DrAll B3 accV acc ∧ acc.length ≤ i + 1 ∧ lcL vs g tt te (ds.drop (i + 1)) ρ3 = some (rest, ρe) ∧ acc ++ rest = ys, fun H' hN => ⟨ds.length - (i + 1), by omega, rfl, h, hN⟩, fun x H' hy' => ?_⟩
      obtain ⟨B3, s3, ok3, dx⟩ := yl x H' hy'
      refine ⟨_, B3, ρ2, d, ρ3, ok3, dx, e5, fun σ3 ok4 hσ => ⟨?_, _, B3, ρ3, b, ρ4, ok4, e7, fun B4 H4 s4 ok5 => ?_⟩⟩
      · rw [← wipe_wipe σ vs]
        exact wipe_eq hσ.len fun j hj' => hσ.out j fun z => hj' (hj j z)
      have back : ∀ {Z' : Zn} {B' H' : Hp} {ρ' : En}, EnvOk Z' B' σ3 H' ρ' → EnvOk Z' B' (wipe σ vs) H' (wipeE ρ' vs) := fun ok' => ok'.swap hσ.len.symm fun j hj' => (hσ.out j fun z => hj' (hj j z)).symm
      cases b with
      | true =>
        rw [if_pos rfl] at e8
        refine iteT ?_
        obtain ⟨⟨y, ρ5⟩, e9, e10⟩ := Option.bind_eq_some_iff.mp e8
        obtain ⟨⟨rest', ρ6⟩, e11, e12⟩ := Option.map_eq_some_iff.mp e10
        cases e12
        refine ⟨_, B4, ρ4, y, ρ5, ok5, e9, fun B5 H5 v s5 ok6 dv => ?_⟩
        have s25 : Same B2 B5 := s3.trans (s4.trans s5)
        have hD5 : H5 D = some (.lst accV) := ok6.lz _ _ hDz
        have bD5 : B5 D = none := ok6.dj _ _ hDz
        have nD5 : NotOwn σ3 ρ5 D := fun j s' f1 f2 f3 => by
          obtain ⟨a, o, g1, g2, g3, g4, _⟩ := ok6.ow j s' f1 f2
          rw [f3] at g1
          have g5 : D = a := V.ref.inj (Option.some.inj (Option.some.inj g1))
          rw [← g5, hDz] at g4
          cases g4
        refine ⟨accV, hD5, by rw [da.length]; exact sz16 (by have : ds.length ≤ 16000000 := hlen; omega), B5, _, acc ++ [y], accV ++ [v], rest', s2.trans s25, ?_, (da.mono s25).app (.cons dv .nil), by rw [List.length_append]; show acc.length + 1 ≤ i + 1; omega, e11, by rw [List.append_assoc]; exact hy⟩
        exact back (((ok6.zle sz rfl).other bD5 zD nD5 (fun u z => by rw [hD5] at z; cases z; trivial)).keep upd_same bD5 nD5)
      | false =>
        rw [if_neg Bool.false_ne_true] at e8
        refine iteF ?_
        exact ⟨B4, _, acc, accV, rest, s2.trans (s3.trans s4), back ok5, da.mono (s3.trans s4), Nat.le_succ_of_le hl, e8, hy⟩
    · have e : i = ds.length := by omega
      rw [e, List.drop_length] at hf
      cases hf
      rw [List.append_nil] at hy
      subst hy
      refine .inl ⟨(wk _ B2 (wipe σ vs) H2 _ i s2 ok2).1 e, ?_⟩
      have hD2 : H2 D = some (.lst accV) := ok2.lz _ _ hDz
      have bD2 : B2 D = none := ok2.dj _ _ hDz
      have ok3 : EnvOk Z B2 σ H2 (wipeE ρe vs) := (ok2.zle sz rfl).swap (wipe_length σ vs).symm fun j hj' => (wipe_out hj').symm
      have nD : NotOwn σ (wipeE ρe vs) D := fun j s' f1 f2 f3 => by
        rcases wipeE_at f1 with z | ⟨h3, h4⟩
        · subst z
          cases f2
        · obtain ⟨a, o, g1, g2, g3, g4, _⟩ := ok2.ow j s' h4 f2
          rw [wipe_out h3, f3] at g1
          have g5 : D = a := V.ref.inj (Option.some.inj (Option.some.inj g1))
          rw [← g5, hDz] at g4
          cases g4
      exact q B2 H2 _ (s1.trans s2) ok3 (.inr ⟨D, _, rfl, hD2, bD2, zD, nD, da, rfl⟩)
  · cases e2

theorem dr_lc {X : Cx} {elt tg iter : Expr} {ifs : List Expr} {scope : Scope} {own : List (Str × Nat)} {pos : Pos} {it : FI} {g : FG} {tt : FT} {te : FE} {js vs : List Nat} (hN : X.N.Nodup) (hi : DI X tg iter it) (ok : BlkOk X.N X.env.scope scope own)
    (hg : ∀ (s : Shared) (H : Hp) (C : Addr) (cl : List (Str × Addr)) (fp : List Addr), DG (X.blk s H scope (compEnvC scope cl C X.env) fp) tg js g)
    (ht : ∀ (s : Shared) (H : Hp) (C : Addr) (cl : List (Str × Addr)) (fp : List Addr), DTs (X.blk s H scope (compEnvC scope cl C X.env) fp) ifs tt)
    (he : ∀ (s : Shared) (H : Hp) (C : Addr) (cl : List (Str × Addr)) (fp : List Addr), DE (X.blk s H scope (compEnvC scope cl C X.env) fp) elt te)
    (hc : X.calm = true := by rfl) (hv : own.map (·.2) = vs := by rfl) (hj : ∀ j ∈ js, j ∈ vs := by decide) (hs : ∀ x, foldedSetIterable iter X.env x = pure x := by intro _; rfl) :
    DR X (.ListComp elt [⟨tg, iter, ifs, 0⟩] scope pos) (fLc vs it g tt te) := by
  subst hv
  exact pe_imp (pe_lc hc hN hi ok hg ht he hs) (tLc_of hj)
theorem ds_setLc (i : Nat) {y : Str} {py : Pos} {X : Cx} {elt tg iter : Expr} {ifs : List Expr} {scope : Scope} {own : List (Str × Nat)} {pos spos : Pos} {it : FI} {g : FG} {tt : FT} {te : FE} {js vs : List Nat} (hN : X.N.Nodup)
    (hsw : swapsWith (.ListComp elt [⟨tg, iter, ifs, 0⟩] scope pos) (some (.Name y py)) spos.line X.env = pure true) (hi : DI X tg iter it) (ok : BlkOk X.N X.env.scope scope own)
    (hg : ∀ (s : Shared) (H : Hp) (C : Addr) (cl : List (Str × Addr)) (fp : List Addr), DG (X.blk s H scope (compEnvC scope cl C X.env) fp) tg js g)
    (ht : ∀ (s : Shared) (H : Hp) (C : Addr) (cl : List (Str × Addr)) (fp : List Addr), DTs (X.blk s H scope (compEnvC scope cl C X.env) fp) ifs tt)
    (he : ∀ (s : Shared) (H : Hp) (C : Addr) (cl : List (Str × Addr)) (fp : List Addr), DE (X.blk s H scope (compEnvC scope cl C X.env) fp) elt te)
    (hy : X.N[i]? = some y := by rfl) (hyl : X.env.scope.names.lookup y = some .local := by rfl)
    (hc : X.calm = true := by rfl) (hv : own.map (·.2) = vs := by rfl) (hj : ∀ j ∈ js, j ∈ vs := by decide) (hs : ∀ x, foldedSetIterable iter X.env x = pure x := by intro _; rfl) :
    DS X (.Assign [.Name y py] (.ListComp elt [⟨tg, iter, ifs, 0⟩] scope pos) spos) (fSet i (fLc vs it g tt te)) := by
  subst hv
  refine ps_imp (ps_setLc hc hN hy hyl hsw hi ok hg ht he hs) fun D σ H ⟨Z, B, ρ, o, ok, e, q⟩ => ?_
  unfold fSet at e
  obtain ⟨⟨s, ρ1⟩, e1, e2⟩ := Option.map_eq_some_iff.mp e
  cases e2
  exact tLc_of hj σ H _ ⟨Z, B, ρ, s, ρ1, ok, e1, fun B1 H1 v s1 ok1 r1 => q B1 s1 _ H1 (ok1.setR i r1)⟩

/-! ### defs -/
/-- the slots at a def's start -/
def startE (n : Nat) (ds : List PyData) : En := ds.map Sl.sh ++ List.replicate (n - ds.length) .un
def resO : Out → Option Sl
  | .rt s _ => some s
  | .nx _ => some (.sh .none)
  | _ => none
/-- what a def gives, told by its body -/
def runF (n : Nat) (F : FS) (ds : List PyData) : Option Sl := (F (startE n ds)).bind resO
/-- a def's promise -/
def spR (n : Nat) (F : List PyData → Option Sl) : Sp := fun vs H Q _ => ∃ (Z : Zn) (B : Hp) (ds : List PyData) (s : Sl), Same B H ∧ Same Z.fr H ∧ (∀ a o, Z.fr a = some o → B a = none) ∧ TbOk Z.fr B H ∧ DrAll B vs ds ∧ ds.length = n ∧ F ds = some s ∧
  ∀ B' H' v, Same B B' → Same B' H' → Same Z.fr H' → (∀ a o, Z.fr a = some o → B' a = none) → TbOk Z.fr B' H' → RepR Z B' H' (fun _ => True) v s → Q v H'
theorem startE_length {n : Nat} {ds : List PyData} (h : ds.length ≤ n) : (startE n ds).length = n := by
  unfold startE
  rw [List.length_append, List.length_map, List.length_replicate]
  omega
theorem start_length {N : List Str} {vs : List V} (h : vs.length ≤ N.length) : (L2.start N vs).length = N.length := by
  unfold L2.start
  rw [List.length_append, List.length_map, List.length_replicate]
  omega
theorem startE_at {n : Nat} {ds : List PyData} {i : Nat} {s : Sl} (h : (startE n ds)[i]? = some s) : (∃ d, ds[i]? = some d ∧ s = .sh d) ∨ s = .un := by
  unfold startE at h
  by_cases hi : i < ds.length
  · rw [List.getElem?_append_left (by rw [List.length_map]; exact hi), List.getElem?_map] at h
    obtain ⟨d, h1, h2⟩ := Option.map_eq_some_iff.mp h
    exact .inl ⟨d, h1, h2.symm⟩
  · rw [List.getElem?_append_right (by rw [List.length_map]; omega)] at h
    exact .inr (List.eq_of_mem_replicate (List.mem_of_getElem? h))
theorem start_at {N : List Str} {vs : List V} {i : Nat} {v : V} (h : vs[i]? = some v) : (L2.start N vs)[i]? = some (some v) := by
  unfold L2.start
  have hi : i < vs.length := (List.getElem?_eq_some_iff.mp h).1
  rw [List.getElem?_append_left (by rw [List.length_map]; exact hi), List.getElem?_map, h]
  rfl
theorem env_start {Z : Zn} {B H : Hp} {N : List Str} {vs : List V} {ds : List PyData} (h1 : Same B H) (h2 : Same Z.fr H) (h3 : ∀ a o, Z.fr a = some o → B a = none) (ht : TbOk Z.fr B H) (h4 : DrAll B vs ds) (hn : ds.length ≤ N.length) : EnvOk Z B (L2.start N vs) H (startE N.length ds) := by
  refine ⟨h1, h2, h3, by rw [start_length (by rw [h4.length]; exact hn), startE_length hn], fun i d e => ?_, fun i s e1 e2 => ?_, fun i xs e => ?_, fun i v e => ?_, fun i j s t a e1 e2 e3 e4 e5 e6 => ?_, ht⟩
  · rcases startE_at e with ⟨d', e1, e2⟩ | e1
    · cases e2
      obtain ⟨v, h5, h6⟩ := h4.get e1
      exact ⟨v, start_at h5, h6⟩
    · cases e1
  · rcases startE_at e1 with ⟨d', _, e3⟩ | e3
    · subst e3
      cases e2
    · subst e3
      cases e2
  · rcases startE_at e with ⟨d', _, e3⟩ | e3 <;> cases e3
  · rcases startE_at e with ⟨d', _, e3⟩ | e3 <;> (cases e3; exact trivial)
  · rcases startE_at e1 with ⟨d', _, e7⟩ | e7
    · subst e7
      cases e2
    · subst e7
      cases e2
theorem RepR.any {Z : Zn} {B H : Hp} {NO : Addr → Prop} {v : V} {s : Sl} (h : RepR Z B H NO v s) : RepR Z B H (fun _ => True) v s := by
  rcases h with h | ⟨a, o, h1, h2, h3, h4, _, h5⟩
  · exact .inl h
  · exact .inr ⟨a, o, h1, h2, h3, h4, trivial, h5⟩
section
variable {P : Program} {w : World} {K : PySem.W.Frag} {mg : Str → Option Value} {base : Heap} {x qual : Str} {params : Arguments} {body : List Stmt} {scope : Scope} {f : Addr} {fd : FuncData} {N ps : List Str} {k : Nat}
theorem fn_ok (D : FunD K x qual params body scope [] [] f fd) (S : FnScope N ps scope) {F : FS} (hl : ps.length ≤ N.length)
    (hb : ∀ (cdv : Value) (A : Around) (outer : List Env) (s : Shared) (H : Hp) (E : XK), Room k (A.deeper (envOfC qual scope s.heap.objs.size f cdv)) → DSs (cxOf CX0 P w K mg base N qual scope f cdv A outer s H E).nox body F) :
    FnOk P w K mg base CX0 (k + 1) f fd ps (spR ps.length (runF N.length F)) := by
  refine D.ok S (fun vs H Q E h => ?_) (fun cdv A outer s H vs Q E hr h => ?_)
  · obtain ⟨Z, B, ds, s, _, _, _, _, h4, h5, _⟩ := h
    rw [h4.length, h5]
  · obtain ⟨Z, B, ds, s1, h1, h2, h3, ht, h4, h5, h6, q⟩ := h
    refine ⟨tS F, PSs.nox (hb cdv A outer s H E hr), ?_⟩
    unfold runF at h6
    obtain ⟨o, e1, e2⟩ := Option.bind_eq_some_iff.mp h6
    refine ⟨Z, B, _, o, env_start h1 h2 h3 ht h4 (by rw [h5]; exact hl), e1, fun B' s2 => ?_⟩
    cases o with
    | nx ρ' =>
      cases e2
      exact fun σ' H' ok => q B' H' _ s2 ok.le ok.lz ok.dj ok.tb (.inl ⟨_, rfl, .non⟩)
    | rt s ρ' =>
      cases e2
      exact fun σ' H' v ok r => q B' H' v s2 ok.le ok.lz ok.dj ok.tb r.any
    | bk ρ' => cases e2
    | ct ρ' => cases e2
end
/-- all that is not the world's -/
def restZ (H B : Hp) (b : Addr) (no : Addr → Bool) : Zn := ⟨fun a => if (B a).isSome || no a then none else exT H a, b, 0⟩
theorem restZ_at {H B : Hp} {b a : Addr} {no : Addr → Bool} {o : HO} (h : (restZ H B b no).fr a = some o) : B a = none ∧ no a = false ∧ H a = some o := by
  have h' : (if (B a).isSome || no a then none else exT H a) = some o := h
  split at h'
  · cases h'
  · rename_i hn
    rw [Bool.or_eq_true, not_or] at hn
    refine ⟨?_, by simpa using hn.2, exT_le H _ _ h'⟩
    cases e : B a with
    | none => rfl
    | some u =>
      rw [e] at hn
      simp at hn
theorem restZ_of {H B : Hp} {b a : Addr} {no : Addr → Bool} {o : HO} (h1 : B a = none) (h2 : no a = false) (h3 : exT H a = some o) : (restZ H B b no).fr a = some o := by
  show (if (B a).isSome || no a then none else exT H a) = some o
  rw [h1, h2]
  exact h3
/-- the tables are no part of it -/
theorem restZ_tb {H B : Hp} {b : Addr} {no : Addr → Bool} {fr : Hp} (t : TbOk fr B H) : TbOk (restZ H B b no).fr B H := ⟨fun a => by
  show isT (if (B a).isSome || no a then none else exT H a) = false
  split
  · rfl
  · exact exT_nt H a, t.b, t.s⟩
def fCallR (n : Nat) (F : List PyData → Option Sl) (k : FA) : FR := fun ρ => (k ρ).bind fun p => if p.1.length = n then (F p.1).map fun s => (s, p.2) else none
/-- behind a call that changed nothing of the frame's -/
theorem EnvOk.after {Z : Zn} {B B' : Hp} {σ : L2.St} {H H' : Hp} {ρ : En} {no : Addr → Bool} {b : Addr} (ok : EnvOk Z B σ H ρ) (s1 : Same B B') (s2 : Same B' H') (s3 : Same (restZ H B b no).fr H') (s4 : ∀ a o, (restZ H B b no).fr a = some o → B' a = none) (st : TbOk (restZ H B b no).fr B' H')
    (hz : ∀ a o, Z.fr a = some o → no a = false) (hn : ∀ (i : Nat) s a, ρ[i]? = some s → isOwn s = true → σ[i]? = some (some (V.ref a)) → no a = false) : EnvOk Z B' σ H' ρ := by
  refine ⟨s2, fun a o h => s3 a o (restZ_of (ok.dj a o h) (hz a o h) (ok.lzX a o h)), fun a o h => s4 a o (restZ_of (ok.dj a o h) (hz a o h) (ok.lzX a o h)), ok.len, fun i d e => ?_, fun i s e1 e2 => ?_, ok.io, fun i s e => (ok.ad i s e).mono s1, ok.inj, ok.tb.z, st.b, st.s⟩
  · obtain ⟨v, h1, h2⟩ := ok.sh i d e
    exact ⟨v, h1, h2.mono s1⟩
  · obtain ⟨a, o, h1, h2, h3, h4, h5⟩ := ok.ow i s e1 e2
    have h6 : (restZ H B b no).fr a = some o := restZ_of h3 (hn i s a e1 e2 h1) ((exT_of (isT_at h2 h5.noTb)).trans h2)
    exact ⟨a, o, h1, s3 a o h6, s4 a o h6, h4, h5.mono s1⟩
theorem RepR.after {Z : Zn} {B B' : Hp} {σ : L2.St} {H H' : Hp} {ρ : En} {no : Addr → Bool} {b : Addr} {NO : Addr → Prop} {v : V} {s : Sl} (ok : EnvOk Z B σ H ρ) (s1 : Same B B') (st : TbOk (restZ H B b no).fr B' H') (hr : RepR (restZ H B b no) B' H' NO v s) (hno : ∀ a, NO a → no a = false) : RepR Z B' H' (NotOwn σ ρ) v s := by
  rcases hr with h | ⟨a, o, h1, h2, h3, h4, h5, h6, h7⟩
  · exact .inl h
  · have hH : exT H a = none := by
      cases e : exT H a with
      | none => rfl
      | some u =>
        rw [restZ_of (s1.free h3) (hno a h5) e] at h4
        cases h4
    exact .inr ⟨a, o, h1, h2, h3, ok.lzX.free hH, NotOwn.newX ok hH, h6, h7⟩
section
variable {X : Cx} {k n : Nat} {f : Addr} {fd : FuncData} {ps : List Str} {x : Str} {p pos : Pos} {e : Expr} {es : List Expr} {F : List PyData → Option Sl} {fa : FA}
theorem dr_call (D : FnOk X.prog X.w X.K X.mg X.base CX0 k f fd ps (spR n F)) (hr : Room k X.A) (hm : X.mg x = some (.ref f)) (hk : PySem.W.keepIn X.K (.ref f) = true) (hb : Binds X.K fd ps []) (ha : DA X (e :: es) fa)
    (hg : Gl X x := by rfl) (hdb : (x == ("__debug__" : Str)) = false := by decide) (he : starEach (e :: es) X.env = (false, eval e X.env) :: starEach es X.env := by rfl) (hpl : (backTo pos (starEach es X.env)).any (·.1) = false := by rfl) :
    DR X (.Call (.Name x p) (e :: es) [] pos) (fCallR n F fa) := pe_imp (pe_call D hr hg hm hk hb .nil pass0 ha hdb he hpl) fun σ H Q ⟨Z, B, ρ, s, ρ', ok, q0, q⟩ => by
  unfold fCallR at q0
  obtain ⟨⟨ds, ρ1⟩, e1, e2⟩ := Option.bind_eq_some_iff.mp q0
  split at e2
  · skip
    rename_i hlen
    obtain ⟨s', e3, e4⟩ := Option.map_eq_some_iff.mp e2
    cases e4
    refine ⟨Z, B, ρ, ds, _, ok, e1, fun B1 H1 vs s1 ok1 dv => ?_⟩
    show spR n F (vs ++ []) H1 Q E0
    rw [List.append_nil]
    refine ⟨restZ H1 B1 Z.bag (fun _ => false), B1, ds, s, ok1.le, fun a o h => (restZ_at h).2.2, fun a o h => (restZ_at h).1, restZ_tb ok1.tb, dv, hlen, e3, fun B' H' v s2 s3 s4 s5 st rv => ?_⟩
    exact q B' H' v (s1.trans s2) (ok1.after s2 s3 s4 s5 st (fun _ _ _ => rfl) fun _ _ _ _ _ _ => rfl) (RepR.after ok1 s2 st rv fun _ _ => rfl)
  · cases e2
end

/-! GCall: built-in functions by name, isinstance, sorted, defs that change the list handed in first. -/

/-! ### isinstance -/
def tyN : PyData → Option String
  | .none => some "NoneType"
  | .bool _ => some "bool"
  | .int _ => some "int"
  | .str _ => some "str"
  | .list _ => some "list"
  | .tuple _ => some "tuple"
  | .dict _ => none
theorem tyN_ok {K : PySem.W.Frag} {B H : Hp} {v : V} {d : PyData} {n : String} (s : Same B H) (h : Dr B v d) (e : tyN d = some n) : TyX K H v (.type n) := by
  cases h with
  | non => cases e; exact .base .non
  | bl b => cases e; exact .base (.bl b)
  | int b => cases e; exact .base (.int b)
  | str b => cases e; exact .base (.str b)
  | lst h1 h2 => cases e; exact .base (.lst (s _ _ h1))
  | tup h1 h2 => cases e; exact .base (.tup (s _ _ h1))
def kitAnyB (n : String) : List String → Option Bool
  | [] => some false
  | T :: Ts => match kitB n T with
    | some true => some true
    | some false => kitAnyB n Ts
    | none => none
theorem kitAnyB_ok {K : PySem.W.Frag} {n : String} {b : Bool} : ∀ {Ts : List String}, kitAnyB n Ts = some b → PySem.W.kitAny K (.type n) (Ts.map Value.type) = some b
  | [], h => by cases h; rfl
  | T :: Ts, h => by
    unfold kitAnyB at h
    split at h
    · rename_i e
      cases h
      exact kitAny_cons (r := true) (kit_ty e) (fun z => nomatch z) (fun _ => rfl)
    · rename_i e
      exact kitAny_cons (kit_ty e) (fun _ => kitAnyB_ok h) (fun z => nomatch z)
    · cases h
def hIsi (T : String) (d : PyData) : Option PyData := (tyN d).bind fun n => (kitB n T).map PyData.bool
def hIsiT (Ts : List String) (d : PyData) : Option PyData := (tyN d).bind fun n => (kitAnyB n Ts).map PyData.bool
/-- built-in types by their names, as arguments -/
def tTys (Ts : List String) : TA := fun _ H Q => Q (Ts.map V.ty) H
theorem clsv_tys : ∀ Ts : List String, Paired ClsV (Ts.map V.ty) (Ts.map Value.type)
  | [] => .nil
  | T :: Ts => .cons (.ty T) (clsv_tys Ts)
section
variable {X : Cx} {e : Expr} {es : List Expr} {f : FE} {pos p q : Pos}
theorem pa_imp' {t t' : TA} (h : PA X es t) (i : ∀ σ H Q, t' σ H Q → t σ H Q) : PA X es t' := pa_imp h i
theorem pa_ty {T : String} {x : Str} {Ts : List String} (hm : X.mg x = none) (hv : bootBuiltins x = some (.type T)) (hr : PA X es (tTys Ts)) (hg : Gl X x := by rfl) (hn : x ≠ "__name__" := by decide) (hd : (x == ("__debug__" : Str)) = false := by decide)
    (hs : starEach (.Name x p :: es) X.env = (false, eval (.Name x p) X.env) :: starEach es X.env := by rfl) : PA X (.Name x p :: es) (tTys (T :: Ts)) := pa_imp (pa_cons (pe_bltn (v := .ty T) hg hm hv rfl hn hd) hr hs) fun _ _ _ q => q
theorem pa_ty0 : PA X [] (tTys []) := pa_nil
theorem de_isi {T : String} {x : Str} {pf : Pos} (hi : X.mg "isinstance" = none) (ha : DE X e f) (hm : X.mg x = none) (hv : bootBuiltins x = some (.type T)) (hgi : Gl X "isinstance" := by rfl) (hg : Gl X x := by rfl) (hn : x ≠ "__name__" := by decide) (hd : (x == ("__debug__" : Str)) = false := by decide)
    (h1 : starEach [e, .Name x p] X.env = (false, eval e X.env) :: starEach [.Name x p] X.env := by rfl) (h2 : starEach [.Name x p] X.env = (false, eval (.Name x p) X.env) :: starEach [] X.env := by rfl) (hpl : (backTo pos (starEach [.Name x p] X.env)).any (·.1) = false := by rfl) :
    DE X (.Call (.Name "isinstance" pf) [e, .Name x p] [] pos) (fUn (hIsi T) f) := pe_imp (pe_callB call_isi hgi hi boot_isinstance (pa_cons ha (pa_cons (pe_bltn (v := .ty T) hg hm hv rfl hn hd) pa_nil h2) h1) (he := h1) (hpl := hpl)) fun σ H Q ⟨Z, B, ρ, d, ρ', ok, q0, q⟩ => by
  unfold fUn at q0
  obtain ⟨⟨d1, ρ1⟩, e1, e2⟩ := Option.bind_eq_some_iff.mp q0
  obtain ⟨z, e3, e4⟩ := Option.map_eq_some_iff.mp e2
  cases e4
  refine ⟨Z, B, ρ, d1, _, ok, e1, fun B1 H1 v s1 ok1 dv => ?_⟩
  obtain ⟨n, e5, e6⟩ := Option.bind_eq_some_iff.mp e3
  obtain ⟨b, e7, e8⟩ := Option.map_eq_some_iff.mp e6
  subst e8
  exact ⟨v, .ty T, .type n, .type T, b, rfl, .ty T, tyN_ok ok1.le dv e5, kit_ty e7, q B1 H1 _ s1 ok1 (.bl b)⟩
theorem de_isiT {Ts : List String} {ts : List Expr} {k : Nat} {pf : Pos} (hi : X.mg "isinstance" = none) (ha : DE X e f) (ht : PA X ts (tTys Ts)) (hl : Ts.length ≤ 20 := by decide) (hgi : Gl X "isinstance" := by rfl)
    (h1 : starEach [e, .Tuple ts k p] X.env = (false, eval e X.env) :: starEach [.Tuple ts k p] X.env := by rfl) (h2 : starEach [.Tuple ts k p] X.env = (false, eval (.Tuple ts k p) X.env) :: starEach [] X.env := by rfl) (hpl : (backTo pos (starEach [.Tuple ts k p] X.env)).any (·.1) = false := by rfl) :
    DE X (.Call (.Name "isinstance" pf) [e, .Tuple ts k p] [] pos) (fUn (hIsiT Ts) f) := pe_imp (pe_callB call_isiT hgi hi boot_isinstance (pa_cons ha (pa_cons (pe_tup ht) pa_nil h2) h1) (he := h1) (hpl := hpl)) fun σ H Q ⟨Z, B, ρ, d, ρ', ok, q0, q⟩ => by
  unfold fUn at q0
  obtain ⟨⟨d1, ρ1⟩, e1, e2⟩ := Option.bind_eq_some_iff.mp q0
  obtain ⟨z, e3, e4⟩ := Option.map_eq_some_iff.mp e2
  cases e4
  refine ⟨Z, B, ρ, d1, _, ok, e1, fun B1 H1 v s1 ok1 dv => ⟨by rw [List.length_map]; exact Nat.le_trans hl (by decide), fun t ht => ?_⟩⟩
  obtain ⟨n, e5, e6⟩ := Option.bind_eq_some_iff.mp e3
  obtain ⟨b, e7, e8⟩ := Option.map_eq_some_iff.mp e6
  subst e8
  have ok2 := ok1.junk (o := .tup (Ts.map V.ty)) ht
  exact ⟨v, t, _, .type n, _, b, rfl, upd_same, clsv_tys Ts, tyN_ok ok2.le dv e5, kitAnyB_ok e7, q B1 _ _ s1 ok2 (.bl b)⟩
end
theorem dt_isi_list : kitB "list" "list" = some true := by decide +kernel

/-! ### sorted of ints -/
def insI (x : Int) : List Int → List Int
  | [] => [x]
  | y :: r => if x ≤ y then x :: y :: r else y :: insI x r
def srtI : List Int → List Int
  | [] => []
  | x :: r => insI x (srtI r)
theorem insI_perm (x : Int) : ∀ r : List Int, (insI x r).Perm (x :: r)
  | [] => List.Perm.refl _
  | y :: r => by
    unfold insI
    split
    · exact List.Perm.refl _
    · exact ((insI_perm x r).cons y).trans (List.Perm.swap x y r)
theorem srtI_perm : ∀ r : List Int, (srtI r).Perm r
  | [] => List.Perm.refl _
  | x :: r => (insI_perm x (srtI r)).trans ((srtI_perm r).cons x)
theorem insI_sorted (x : Int) : ∀ {r : List Int}, r.Pairwise (· ≤ ·) → (insI x r).Pairwise (· ≤ ·)
  | [], _ => List.pairwise_singleton _ _
  | y :: r, h => by
    have hc := List.pairwise_cons.mp h
    unfold insI
    split
    · rename_i hxy
      refine List.pairwise_cons.mpr ⟨fun z hz => ?_, h⟩
      rcases List.mem_cons.mp hz with rfl | hz
      · exact hxy
      · exact Int.le_trans hxy (hc.1 z hz)
    · rename_i hxy
      refine List.pairwise_cons.mpr ⟨fun z hz => ?_, insI_sorted x hc.2⟩
      rcases List.mem_cons.mp ((insI_perm x r).mem_iff.mp hz) with rfl | hz
      · omega
      · exact hc.1 z hz
theorem srtI_sorted : ∀ r : List Int, (srtI r).Pairwise (· ≤ ·)
  | [] => List.Pairwise.nil
  | x :: r => insI_sorted x (srtI_sorted r)
theorem sorted_one : ∀ {l m : List Int}, l.Perm m → l.Pairwise (· ≤ ·) → m.Pairwise (· ≤ ·) → l = m
  | [], m, p, _, _ => (List.Perm.nil_eq p)
  | x :: l, [], p, _, _ => by
    have := p.length_eq
    simp at this
  | x :: l, y :: m, p, h1, h2 => by
    have c1 := List.pairwise_cons.mp h1
    have c2 := List.pairwise_cons.mp h2
    have e : x = y := by
      have hx : x ∈ y :: m := p.mem_iff.mp List.mem_cons_self
      have hy : y ∈ x :: l := p.mem_iff.mpr List.mem_cons_self
      rcases List.mem_cons.mp hx with e | hx
      · exact e
      · rcases List.mem_cons.mp hy with e | hy
        · exact e.symm
        · exact Int.le_antisymm (c1.1 y hy) (c2.1 x hx)
    subst e
    rw [sorted_one ((List.perm_cons x).mp p) c1.2 c2.2]
def hSorted : List PyData → Option Sl
  | [.list xs] => (intsO xs).map fun ns => .ow ((srtI ns).map PyData.int)
  | _ => none
theorem cd_sorted {K : PySem.W.Frag} : CallD (rSortedI K) hSorted := fun Z B σ H ρ vs ds s ok dv hz Q q => by
  unfold hSorted at hz
  split at hz
  · obtain ⟨ns, h1, h2⟩ := Option.map_eq_some_iff.mp hz
    cases h2
    have e1 := intsO_eq h1
    subst e1
    obtain ⟨v, rfl, h3⟩ := drAll_one dv
    cases h3 with
    | lst h4 h5 =>
      have e2 := h5.ints_inv
      subst e2
      refine ⟨_, ns, rfl, SqL.of (ok.le _ _ h4), fun ns' p h6 h7 hp => ?_⟩
      have e3 : ns' = srtI ns := sorted_one (h6.trans (srtI_perm ns).symm) h7 (srtI_sorted ns)
      subst e3
      obtain ⟨ok4, r4⟩ := own_lst ok (DrAll.ints (H := B) (srtI ns)) hp
      exact q B _ _ (Same.refl B) ok4 r4
  · cases hz

/-! ### built-in functions by their names -/
section
variable {X : Cx} {e : Expr} {es : List Expr} {k : FA} {pos p : Pos}
theorem dr_len (hm : X.mg "len" = none) (ha : DA X [e] k) (hg : Gl X "len" := by rfl) (he : starEach [e] X.env = (false, eval e X.env) :: starEach [] X.env := by rfl) (hpl : (backTo pos (starEach [] X.env)).any (·.1) = false := by rfl) : DR X (.Call (.Name "len" p) [e] [] pos) (fCall hLen k) := dr_callB call_len_seq cd_len hm PySem.boot_len ha hg (by decide) (by decide) he hpl
theorem dr_abs (hm : X.mg "abs" = none) (ha : DA X [e] k) (hg : Gl X "abs" := by rfl) (he : starEach [e] X.env = (false, eval e X.env) :: starEach [] X.env := by rfl) (hpl : (backTo pos (starEach [] X.env)).any (·.1) = false := by rfl) : DR X (.Call (.Name "abs" p) [e] [] pos) (fCall hAbs k) := dr_callB call_abs cd_abs hm boot_abs ha hg (by decide) (by decide) he hpl
theorem dr_all (hm : X.mg "all" = none) (ha : DA X [e] k) (hg : Gl X "all" := by rfl) (hc : X.calm = true := by rfl) (he : starEach [e] X.env = (false, eval e X.env) :: starEach [] X.env := by rfl) (hpl : (backTo pos (starEach [] X.env)).any (·.1) = false := by rfl) : DR X (.Call (.Name "all" p) [e] [] pos) (fCall hAll k) := dr_callB (cr_all hc) cd_all hm boot_all ha hg (by decide) (by decide) he hpl
theorem dr_sum (hm : X.mg "sum" = none) (ha : DA X [e] k) (hg : Gl X "sum" := by rfl) (hc : X.calm = true := by rfl) (he : starEach [e] X.env = (false, eval e X.env) :: starEach [] X.env := by rfl) (hpl : (backTo pos (starEach [] X.env)).any (·.1) = false := by rfl) : DR X (.Call (.Name "sum" p) [e] [] pos) (fCall hSum k) := dr_callB (cr_sum hc) cd_sum hm boot_sum ha hg (by decide) (by decide) he hpl
theorem dr_max (hm : X.mg "max" = none) (ha : DA X (e :: es) k) (hg : Gl X "max" := by rfl) (hc : X.calm = true := by rfl) (he : starEach (e :: es) X.env = (false, eval e X.env) :: starEach es X.env := by rfl) (hpl : (backTo pos (starEach es X.env)).any (·.1) = false := by rfl) : DR X (.Call (.Name "max" p) (e :: es) [] pos) (fCall hMax k) := dr_callB (CallR.or (call_max2 hc) (cr_max hc)) cd_max hm boot_max ha hg (by decide) (by decide) he hpl
theorem dr_min (hm : X.mg "min" = none) (ha : DA X (e :: es) k) (hg : Gl X "min" := by rfl) (hc : X.calm = true := by rfl) (he : starEach (e :: es) X.env = (false, eval e X.env) :: starEach es X.env := by rfl) (hpl : (backTo pos (starEach es X.env)).any (·.1) = false := by rfl) : DR X (.Call (.Name "min" p) (e :: es) [] pos) (fCall hMin k) := dr_callB (CallR.or (call_min2 hc) (cr_min hc)) cd_min hm boot_min ha hg (by decide) (by decide) he hpl
theorem dr_sorted (hm : X.mg "sorted" = none) (ha : DA X [e] k) (hg : Gl X "sorted" := by rfl) (he : starEach [e] X.env = (false, eval e X.env) :: starEach [] X.env := by rfl) (hpl : (backTo pos (starEach [] X.env)).any (·.1) = false := by rfl) : DR X (.Call (.Name "sorted" p) [e] [] pos) (fCall hSorted k) := dr_callB cr_sortedI cd_sorted hm boot_sorted ha hg (by decide) (by decide) he hpl
theorem dr_list (hm : X.mg "list" = none) (ha : DA X [e] k) (hg : Gl X "list" := by rfl) (he : starEach [e] X.env = (false, eval e X.env) :: starEach [] X.env := by rfl) (hpl : (backTo pos (starEach [] X.env)).any (·.1) = false := by rfl) : DR X (.Call (.Name "list" p) [e] [] pos) (fCall hList k) := dr_callTy call_list_of cd_list hm PyProof.Rows.boot_list ha hg (by decide) (by decide) he hpl
theorem dr_tuple (hm : X.mg "tuple" = none) (ha : DA X [e] k) (hg : Gl X "tuple" := by rfl) (he : starEach [e] X.env = (false, eval e X.env) :: starEach [] X.env := by rfl) (hpl : (backTo pos (starEach [] X.env)).any (·.1) = false := by rfl) : DR X (.Call (.Name "tuple" p) [e] [] pos) (fCall hTuple k) := dr_callTy call_tuple_of cd_tuple hm PyProof.Rows.boot_tuple ha hg (by decide) (by decide) he hpl
end

/-! ### defs that change the list handed in first -/
abbrev FBag := List PyData → List PyData → Option (Sl × List PyData)
def startB (n : Nat) (bs : List PyData) (ds : List PyData) : En := .io bs :: startE (n - 1) ds
def bagO (ρ : En) (s : Sl) : Option (Sl × List PyData) := match (ρ[0]? : Option Sl) with
  | some (Sl.io bs) => some (s, bs)
  | _ => none
def resB : Out → Option (Sl × List PyData)
  | .rt s ρ => bagO ρ s
  | .nx ρ => bagO ρ (.sh .none)
  | _ => none
def runB (n : Nat) (F : FS) : FBag := fun bs ds => (F (startB n bs ds)).bind resB
def spB (n : Nat) (F : FBag) : Sp := fun vs H Q _ => ∃ (Z : Zn) (B : Hp) (bs ds : List PyData) (s : Sl) (bs' : List PyData) (bvs ws : List V), vs = .ref Z.bag :: ws ∧ Same B H ∧ Same Z.fr H ∧ (∀ a o, Z.fr a = some o → B a = none) ∧
  TbOk Z.fr B H ∧ H Z.bag = some (.lst bvs) ∧ B Z.bag = none ∧ Z.fr Z.bag = none ∧ DrAll B bvs bs ∧ DrAll B ws ds ∧ ds.length = n ∧ F bs ds = some (s, bs') ∧
  ∀ B' H' v bvs', Same B B' → Same B' H' → Same Z.fr H' → (∀ a o, Z.fr a = some o → B' a = none) → TbOk Z.fr B' H' → H' Z.bag = some (.lst bvs') → B' Z.bag = none → DrAll B' bvs' bs' → RepR Z B' H' (fun a => a ≠ Z.bag) v s → Q v H'
theorem env_startB {Z : Zn} {B H : Hp} {N : List Str} {ws bvs : List V} {bs ds : List PyData} (h1 : Same B H) (h2 : Same Z.fr H) (h3 : ∀ a o, Z.fr a = some o → B a = none) (ht : TbOk Z.fr B H) (g1 : H Z.bag = some (.lst bvs)) (g2 : B Z.bag = none) (g3 : Z.fr Z.bag = none) (g4 : DrAll B bvs bs) (h4 : DrAll B ws ds) (hn : ds.length + 1 ≤ N.length) :
    EnvOk Z B (L2.start N (.ref Z.bag :: ws)) H (startB N.length bs ds) := by
  have hs0 : (L2.start N (.ref Z.bag :: ws))[0]? = some (some (.ref Z.bag)) := start_at rfl
  have own0 : ∀ (i : Nat) s, (startB N.length bs ds)[i]? = some s → isOwn s = true → i = 0 ∧ s = .io bs := fun i s e1 e2 => by
    cases i with
    | zero =>
      have e3 : some (Sl.io bs) = some s := e1
      cases e3
      exact ⟨rfl, rfl⟩
    | succ i =>
      have e3 : (startE (N.length - 1) ds)[i]? = some s := e1
      rcases startE_at e3 with ⟨d', _, e4⟩ | e4
      · subst e4
        cases e2
      · subst e4
        cases e2
  refine ⟨h1, h2, h3, ?_, fun i d e => ?_, fun i s e1 e2 => ?_, fun i xs e => ?_, fun i v e => ?_, fun i j s t a e1 e2 e3 e4 e5 e6 => ?_, ht⟩
  · rw [start_length (by rw [List.length_cons, h4.length]; exact hn)]
    show N.length = (startE (N.length - 1) ds).length + 1
    rw [startE_length (by omega)]
    omega
  · cases i with
    | zero =>
      have e3 : some (Sl.io bs) = some (Sl.sh d) := e
      cases e3
    | succ i =>
      have e3 : (startE (N.length - 1) ds)[i]? = some (.sh d) := e
      rcases startE_at e3 with ⟨d', e1, e2⟩ | e1
      · cases e2
        obtain ⟨v, h5, h6⟩ := h4.get e1
        exact ⟨v, start_at (show (V.ref Z.bag :: ws)[i + 1]? = some v from h5), h6⟩
      · cases e1
  · obtain ⟨rfl, rfl⟩ := own0 i s e1 e2
    exact ⟨Z.bag, _, hs0, g1, g2, g3, g4⟩
  · obtain ⟨rfl, _⟩ := own0 i _ e rfl
    exact hs0
  · cases i with
    | zero =>
      have e3 : some (Sl.io bs) = some v := e
      cases e3
      exact trivial
    | succ i =>
      have e3 : (startE (N.length - 1) ds)[i]? = some v := e
      rcases startE_at e3 with ⟨d', _, e4⟩ | e4 <;> (cases e4; exact trivial)
  · rw [(own0 i s e1 e2).1, (own0 j t e3 e4).1]
section
variable {P : Program} {w : World} {K : PySem.W.Frag} {mg : Str → Option Value} {base : Heap} {x qual : Str} {params : Arguments} {body : List Stmt} {scope : Scope} {f : Addr} {fd : FuncData} {N ps : List Str} {k : Nat}
theorem fnB_ok (D : FunD K x qual params body scope [] [] f fd) (S : FnScope N ps scope) {F : FS} {n : Nat} (hn : ps.length = n + 1) (hl : ps.length ≤ N.length)
    (hb : ∀ (cdv : Value) (A : Around) (outer : List Env) (s : Shared) (H : Hp) (E : XK), Room k (A.deeper (envOfC qual scope s.heap.objs.size f cdv)) → DSs (cxOf CX0 P w K mg base N qual scope f cdv A outer s H E).nox body F) :
    FnOk P w K mg base CX0 (k + 1) f fd ps (spB n (runB N.length F)) := by
  refine D.ok S (fun vs H Q E h => ?_) (fun cdv A outer s H vs Q E hr h => ?_)
  · obtain ⟨Z, B, bs, ds, s, bs', bvs, ws, rfl, _, _, _, _, _, _, _, _, h4, h5, _⟩ := h
    rw [List.length_cons, h4.length, h5, hn]
  · obtain ⟨Z, B, bs, ds, s1, bs', bvs, ws, rfl, h1, h2, h3, ht, g1, g2, g3, g4, h4, h5, h6, q⟩ := h
    refine ⟨tS F, PSs.nox (hb cdv A outer s H E hr), ?_⟩
    unfold runB at h6
    obtain ⟨o, e1, e2⟩ := Option.bind_eq_some_iff.mp h6
    refine ⟨Z, B, _, o, env_startB h1 h2 h3 ht g1 g2 g3 g4 h4 (by rw [h5, ← hn]; exact hl), e1, fun B' s2 => ?_⟩
    have fin : ∀ {σ' : L2.St} {ρ' : En} {H' : Hp} {v : V} {s : Sl}, EnvOk Z B' σ' H' ρ' → bagO ρ' s = some (s1, bs') → RepR Z B' H' (NotOwn σ' ρ') v s → Q v H' := fun {σ' ρ' H' v s} ok e r => by
      unfold bagO at e
      split at e
      · rename_i bs2 e3
        cases e
        obtain ⟨a, o, k1, k2, k3, k4, k5⟩ := ok.ow 0 _ e3 rfl
        have k6 := ok.io 0 _ e3
        rw [k1] at k6
        have k7 : a = Z.bag := V.ref.inj (Option.some.inj (Option.some.inj k6))
        subst k7
        cases o with
        | lst bvs' =>
          refine q B' H' v bvs' s2 ok.le ok.lz ok.dj ok.tb k2 k3 k5 ?_
          rcases r with r | ⟨a', o', r1, r2, r3, r4, r5, r6⟩
          · exact .inl r
          · exact .inr ⟨a', o', r1, r2, r3, r4, fun z => r5 0 _ e3 rfl (by rw [z]; exact k1), r6⟩
        | _ => exact k5.elim
      · cases e
    cases o with
    | nx ρ' => exact fun σ' H' ok => fin ok e2 (.inl ⟨_, rfl, .non⟩)
    | rt s ρ' => exact fun σ' H' v ok r => fin ok e2 r
    | bk ρ' => cases e2
    | ct ρ' => cases e2
end
def fCallB (i n : Nat) (F : FBag) (k : FA) : FR := fun ρ => (ownL ρ[i]?).bind fun _ => (k ρ).bind fun p => if p.1.length = n then (ownL p.2[i]?).bind fun bs => (F bs p.1).map fun r => (r.1, p.2.set i (newL p.2[i]? r.2)) else none
theorem set_self {α : Type} {l : List α} {i : Nat} {x : α} (h : l[i]? = some x) : l.set i x = l := by
  apply List.ext_getElem?
  intro j
  by_cases e : j = i
  · subst e
    rw [List.getElem?_set_self (List.getElem?_eq_some_iff.mp h).1, h]
  · rw [List.getElem?_set_ne (Ne.symm e)]
section
variable {X : Cx} {k n : Nat} {f : Addr} {fd : FuncData} {ps : List Str} {x y : Str} {p py pos : Pos} {es : List Expr} {F : FBag} {fa : FA}
theorem dr_callBg (i : Nat) (D : FnOk X.prog X.w X.K X.mg X.base CX0 k f fd ps (spB n F)) (hr : Room k X.A) (hm : X.mg x = some (.ref f)) (hk : PySem.W.keepIn X.K (.ref f) = true) (hb : Binds X.K fd ps []) (ha : DA X es fa)
    (hg : Gl X x := by rfl) (hN : X.N[i]? = some y := by rfl) (hv : Vis X.env.scope y := by first | exact Or.inl rfl | exact Or.inr (Or.inl rfl) | exact Or.inr (Or.inr rfl)) (hdb : (x == ("__debug__" : Str)) = false := by decide) (hd : (y == ("__debug__" : Str)) = false := by decide)
    (hcd : (y == ("__classdict__" : Str)) = false := by decide) (he : starEach (.Name y py :: es) X.env = (false, eval (.Name y py) X.env) :: starEach es X.env := by rfl) (hpl : (backTo pos (starEach es X.env)).any (·.1) = false := by rfl) :
    DR X (.Call (.Name x p) (.Name y py :: es) [] pos) (fCallB i n F fa) := pe_imp (pe_call D hr hg hm hk hb .nil pass0 (pa_cons (pe_var hN hv hd hcd) ha he) hdb he hpl) fun σ H Q ⟨Z, B, ρ, s, ρ', ok, q0, q⟩ => by
  unfold fCallB at q0
  obtain ⟨xs0, h0, q1⟩ := Option.bind_eq_some_iff.mp q0
  obtain ⟨⟨ds, ρ1⟩, e1, e2⟩ := Option.bind_eq_some_iff.mp q1
  split at e2
  · rename_i hlen
    obtain ⟨bs, h1, e3⟩ := Option.bind_eq_some_iff.mp e2
    obtain ⟨⟨s', bs'⟩, e4, e5⟩ := Option.map_eq_some_iff.mp e3
    cases e5
    obtain ⟨_, a0, vs0, _, _, g1, g2, _⟩ := own_at ok h0
    refine ⟨.ref a0, g1, Z, B, ρ, ds, ρ1, ok, e1, fun B1 H1 ws s1 ok1 dv => ?_⟩
    show spB n F (((V.ref a0) :: ws) ++ []) H1 Q E0
    rw [List.append_nil]
    obtain ⟨t, a, vs, k6, k7, k1, k2, k3, k4, k5, k8⟩ := own_at ok1 h1
    have e5 := own_same g1 k1
    subst e5
    have no : ∀ (b : Addr), b ≠ a0 → (fun c => c == a0) b = false := fun b hb => beq_eq_false_iff_ne.mpr hb
    refine ⟨restZ H1 B1 a0 (fun c => c == a0), B1, bs, ds, s', bs', vs, ws, rfl, ok1.le, fun c o h => (restZ_at h).2.2, fun c o h => (restZ_at h).1, restZ_tb ok1.tb, k2, k3, ?_, k5, dv, hlen, e4, fun B' H' v bvs' s2 s3 s4 s5 st j1 j2 j3 rv => ?_⟩
    · cases ez : (restZ H1 B1 a0 (fun c => c == a0)).fr a0 with
      | none => exact ez
      | some o =>
        have := (restZ_at ez).2.1
        simp at this
    have f1 : EnvOk Z B' σ H' (ρ1.set i .un) := (ok1.forget i).after s2 s3 s4 s5 st (fun c o h => no c fun z => by
        rw [z, k4] at h
        cases h) fun j s' c m1 m2 m3 => no c fun z => by
        rcases getElem?_set_cases m1 with ⟨rfl, z2, z3⟩ | ⟨z1, z2⟩
        · subst z2
          cases m2
        · exact z1 (ok1.inj j i s' t a0 z2 m2 k6 k7 (by rw [← z]; exact m3) k1)
    have f2 : NotOwn σ (ρ1.set i .un) a0 := fun j s' m1 m2 m3 => by
      rcases getElem?_set_cases m1 with ⟨rfl, z2, z3⟩ | ⟨z1, z2⟩
      · subst z2
        cases m2
      · exact z1 (ok1.inj j i s' t a0 z2 m2 k6 k7 m3 k1)
    have f3 : EnvOk Z B' σ H' (ρ1.set i (newL ρ1[i]? bs')) := by
      rw [k6]
      rcases k8 with rfl | ⟨rfl, ea⟩
      · have f4 := f1.setOw i (a := a0) (s := .ow bs') j1 j2 k4 f2 j3 (fun z => nomatch z)
        rw [set_self k1, List.set_set] at f4
        exact f4
      · have f4 := f1.setOw i (a := a0) (s := .io bs') j1 j2 k4 f2 j3 (fun _ => ea)
        rw [set_self k1, List.set_set] at f4
        exact f4
    refine q B' H' v (s1.trans s2) f3 ?_
    rcases rv with r | ⟨c, o, r1, r2, r3, r4, r5, r6, r7⟩
    · exact .inl r
    · have hH : exT H1 c = none := by
        cases ec : exT H1 c with
        | none => rfl
        | some u =>
          rw [restZ_of (s2.free r3) (no c r5) ec] at r4
          cases r4
      have hno := NotOwn.newX ok1 hH
      refine .inr ⟨c, o, r1, r2, r3, ok1.lzX.free hH, fun j s' m1 m2 m3 => ?_, r6, r7⟩
      rcases getElem?_set_cases m1 with ⟨rfl, z2, z3⟩ | ⟨z1, z2⟩
      · exact hno j t k6 k7 m3
      · exact hno j s' z2 m2 m3
  · cases e2
end

/-! GPar: several targets at once; defs by name. -/

abbrev FAR := En → Option (List Sl × En)
def RepRs (Z : Zn) (B H : Hp) : (Addr → Prop) → List V → List Sl → Prop
  | _, [], [] => True
  | NO, v :: vs, s :: ss => RepR Z B H NO v s ∧ RepRs Z B H (fun a => NO a ∧ v ≠ .ref a) vs ss
  | _, _, _ => False
def tAR (f : FAR) : TA := fun σ H Q => ∃ Z B ρ ss ρ', EnvOk Z B σ H ρ ∧ f ρ = some (ss, ρ') ∧ ∀ B' H' vs, Same B B' → EnvOk Z B' σ H' ρ' → RepRs Z B' H' (NotOwn σ ρ') vs ss → Q vs H'
abbrev DAR (X : Cx) (es : List Expr) (f : FAR) := PA X es (tAR f)
def fNilR : FAR := fun ρ => some ([], ρ)
def fConsR (f : FR) (g : FAR) : FAR := fun ρ => (f ρ).bind fun p => (g p.2).map fun q => (p.1 :: q.1, q.2)
theorem dr_ref {B : Hp} {a : Addr} {d : PyData} (h : Dr B (.ref a) d) : ∃ o, B a = some o := by
  cases h with
  | lst h1 _ => exact ⟨_, h1⟩
  | tup h1 _ => exact ⟨_, h1⟩
theorem RepR.weak {Z Z' : Zn} {B H : Hp} {NO NO' : Addr → Prop} {v : V} {s : Sl} (h : RepR Z B H NO v s) (hz : ∀ a, Z.fr a = none → Z'.fr a = none) (hn : ∀ a, Z.fr a = none → B a = none → NO a → NO' a) : RepR Z' B H NO' v s := by
  rcases h with h | ⟨a, o, h1, h2, h3, h4, h5, h6⟩
  · exact .inl h
  · exact .inr ⟨a, o, h1, h2, h3, hz a h4, hn a h4 h3 h5, h6⟩
theorem RepRs.weak {Z Z' : Zn} {B H : Hp} : ∀ {vs : List V} {ss : List Sl} {NO NO' : Addr → Prop}, RepRs Z B H NO vs ss → (∀ a, Z.fr a = none → Z'.fr a = none) → (∀ a, Z.fr a = none → B a = none → NO a → NO' a) → RepRs Z' B H NO' vs ss
  | [], [], _, _, _, _, _ => trivial
  | v :: vs, s :: ss, _, _, ⟨h1, h2⟩, hz, hn => ⟨h1.weak hz hn, RepRs.weak h2 hz fun a h3 h5 h4 => ⟨hn a h3 h5 h4.1, h4.2⟩⟩
  | [], _ :: _, _, _, h, _, _ => h.elim
  | _ :: _, [], _, _, h, _, _ => h.elim
section
variable {X : Cx} {e : Expr} {es : List Expr} {pos : Pos}
theorem dar_nil : DAR X [] fNilR := pa_imp pa_nil fun σ H Q ⟨Z, B, ρ, ds, ρ', ok, e, q⟩ => by
  cases e
  exact q B H [] (Same.refl B) ok trivial
theorem dar_cons {f : FR} {g : FAR} (ha : DR X e f) (hr : DAR X es g) (hs : starEach (e :: es) X.env = (false, eval e X.env) :: starEach es X.env := by rfl) : DAR X (e :: es) (fConsR f g) := pa_imp (pa_cons ha hr hs) fun σ H Q ⟨Z, B, ρ, ds, ρ', ok, e, q⟩ => by
  unfold fConsR at e
  obtain ⟨⟨s, ρ1⟩, e1, e2⟩ := Option.bind_eq_some_iff.mp e
  obtain ⟨⟨ss, ρ2⟩, e3, e4⟩ := Option.map_eq_some_iff.mp e2
  cases e4
  refine ⟨Z, B, ρ, s, ρ1, ok, e1, fun B1 H1 v s1 ok1 r1 => ?_⟩
  rcases r1 with ⟨d, rfl, dv⟩ | ⟨a, o, rfl, h1, h2, h3, h4, h5, h6⟩
  · refine ⟨Z, B1, ρ1, ss, ρ2, ok1, e3, fun B2 H2 vs s2 ok2 r2 => q B2 H2 _ (s1.trans s2) ok2 ⟨.inl ⟨d, rfl, dv.mono s2⟩, r2.weak (fun _ h => h) fun a g1 g3 g2 => ⟨g2, fun z => ?_⟩⟩⟩
    subst z
    obtain ⟨o, h7⟩ := dr_ref dv
    rw [s2 _ _ h7] at g3
    cases g3
  · refine ⟨Z.upd a o, B1, ρ1, ss, ρ2, ok1.keep h1 h2 h4 h5.noTb, e3, fun B2 H2 vs s2 ok2 r2 => ?_⟩
    have hZa : (Z.upd a o).fr a = some o := upd_same
    have sz : Same Z.fr (Z.upd a o).fr := same_upd_new h3
    have hB2 : B2 a = none := ok2.dj _ _ hZa
    have hn2 : NotOwn σ ρ2 a := fun j s' f1 f2 f3 => by
      obtain ⟨b, ob, g1, g2, g3, g4, _⟩ := ok2.ow j s' f1 f2
      rw [f3] at g1
      have g5 : a = b := V.ref.inj (Option.some.inj (Option.some.inj g1))
      rw [← g5, hZa] at g4
      cases g4
    refine q B2 H2 _ (s1.trans s2) (ok2.zle sz rfl) ⟨.inr ⟨a, o, rfl, ok2.lz _ _ hZa, hB2, h3, hn2, h5.mono s2, h6⟩, r2.weak (fun c hc => sz.free hc) fun c hc _ g => ⟨g, fun z => ?_⟩⟩
    cases z
    rw [hZa] at hc
    cases hc
def fPar2 (i j : Nat) (f : FAR) : FS := fun ρ => (f ρ).bind fun p => match p.1 with
  | [s, t] => some (.nx ((p.2.set i s).set j t))
  | _ => none
def fPar3 (i j l : Nat) (f : FAR) : FS := fun ρ => (f ρ).bind fun p => match p.1 with
  | [s, t, u] => some (.nx (((p.2.set i s).set j t).set l u))
  | _ => none
/-- behind a store the other new things are still nobody's -/
theorem NotOwn.set {σ : L2.St} {ρ : En} {a : Addr} {v : V} {s : Sl} {i : Nat} (h : NotOwn σ ρ a) (hl : σ.length = ρ.length) (hv : v ≠ .ref a ∨ isOwn s = false) : NotOwn (σ.set i (some v)) (ρ.set i s) a := fun j t e1 e2 e3 => by
  rcases getElem?_set_cases e1 with ⟨rfl, z2, z3⟩ | ⟨z1, z2⟩
  · subst z2
    rw [List.getElem?_set_self (by rw [hl]; exact z3)] at e3
    have e4 : v = .ref a := Option.some.inj (Option.some.inj e3)
    rcases hv with hv | hv
    · exact hv e4
    · rw [hv] at e2
      cases e2
  · rw [List.getElem?_set_ne (Ne.symm z1)] at e3
    exact h j t z2 e2 e3
theorem EnvOk.setRs {Z : Zn} {B : Hp} {σ : L2.St} {H : Hp} {ρ : En} {v : V} {s : Sl} {vs : List V} {ss : List Sl} (ok : EnvOk Z B σ H ρ) (i : Nat) (h : RepRs Z B H (NotOwn σ ρ) (v :: vs) (s :: ss)) :
    EnvOk Z B (σ.set i (some v)) H (ρ.set i s) ∧ RepRs Z B H (NotOwn (σ.set i (some v)) (ρ.set i s)) vs ss :=
  ⟨ok.setR i h.1, h.2.weak (fun _ h => h) fun a _ _ g => NotOwn.set g.1 ok.len (.inl g.2)⟩
theorem reps_two {Z : Zn} {B H : Hp} {NO : Addr → Prop} {vs : List V} {s t : Sl} (h : RepRs Z B H NO vs [s, t]) : ∃ v w, vs = [v, w] := by
  match vs, h with
  | [v, w], _ => exact ⟨v, w, rfl⟩
  | [], h => exact h.elim
  | [_], h => exact h.2.elim
  | _ :: _ :: _ :: _, h => exact h.2.2.elim
theorem reps_three {Z : Zn} {B H : Hp} {NO : Addr → Prop} {vs : List V} {s t u : Sl} (h : RepRs Z B H NO vs [s, t, u]) : ∃ v w z, vs = [v, w, z] := by
  match vs, h with
  | [v, w, z], _ => exact ⟨v, w, z, rfl⟩
  | [], h => exact h.elim
  | [_], h => exact h.2.elim
  | [_, _], h => exact h.2.2.elim
  | _ :: _ :: _ :: _ :: _, h => exact h.2.2.2.elim
theorem ds_par2 (i j : Nat) {x y : Str} {a b : Expr} {f : FAR} {px py pt : Pos} {kt k2 pt2} (hN : X.N.Nodup) (ha : DAR X [a, b] f) (hw : swappedStores [.Tuple [.Name x px, .Name y py] kt pt] (.Tuple [a, b] k2 pt2) X.env = pure (some [x, y]))
    (hi : X.N[i]? = some x := by rfl) (hj : X.N[j]? = some y := by rfl) (hij : i ≠ j := by decide) (hx : X.env.scope.names.lookup x = some .local := by rfl) (hy : X.env.scope.names.lookup y = some .local := by rfl) (hc : X.calm = true := by rfl)
    (hs : swapsWithSole [.Tuple [.Name x px, .Name y py] kt pt] (.Tuple [a, b] k2 pt2) pos.line X.env = pure false := by rfl) : DS X (.Assign [.Tuple [.Name x px, .Name y py] kt pt] (.Tuple [a, b] k2 pt2) pos) (fPar2 i j f) :=
  ps_imp (ps_par hc hN hi hj hij hx hy ha hw hs) fun D σ H ⟨Z, B, ρ, o, ok, e, q⟩ => by
  unfold fPar2 at e
  obtain ⟨⟨ss, ρ1⟩, e1, e2⟩ := Option.bind_eq_some_iff.mp e
  split at e2
  · rename_i s t e3
    replace e3 : ss = [s, t] := e3
    subst e3
    cases e2
    refine ⟨Z, B, ρ, _, ρ1, ok, e1, fun B1 H1 vs s1 ok1 r1 => ?_⟩
    obtain ⟨v, w, rfl⟩ := reps_two r1
    obtain ⟨ok2, r2⟩ := ok1.setRs i r1
    obtain ⟨ok3, _⟩ := ok2.setRs j r2
    exact ⟨v, w, rfl, q B1 s1 _ H1 ok3⟩
  · cases e2
theorem ds_par3 (i j l : Nat) {x y z : Str} {a b c : Expr} {f : FAR} {px py pz pt : Pos} {kt k2 pt2} (hN : X.N.Nodup) (ha : DAR X [a, b, c] f) (hw : swappedStores [.Tuple [.Name x px, .Name y py, .Name z pz] kt pt] (.Tuple [a, b, c] k2 pt2) X.env = pure (some [x, y, z]))
    (hi : X.N[i]? = some x := by rfl) (hj : X.N[j]? = some y := by rfl) (hl : X.N[l]? = some z := by rfl) (hij : i ≠ j := by decide) (hil : i ≠ l := by decide) (hjl : j ≠ l := by decide)
    (hx : X.env.scope.names.lookup x = some .local := by rfl) (hy : X.env.scope.names.lookup y = some .local := by rfl) (hz : X.env.scope.names.lookup z = some .local := by rfl) (hc : X.calm = true := by rfl)
    (hs : swapsWithSole [.Tuple [.Name x px, .Name y py, .Name z pz] kt pt] (.Tuple [a, b, c] k2 pt2) pos.line X.env = pure false := by rfl) : DS X (.Assign [.Tuple [.Name x px, .Name y py, .Name z pz] kt pt] (.Tuple [a, b, c] k2 pt2) pos) (fPar3 i j l f) :=
  ps_imp (ps_par3 hc hN hi hj hl hij hil hjl hx hy hz ha hw hs) fun D σ H ⟨Z, B, ρ, o, ok, e, q⟩ => by
  unfold fPar3 at e
  obtain ⟨⟨ss, ρ1⟩, e1, e2⟩ := Option.bind_eq_some_iff.mp e
  split at e2
  · rename_i s t u e3
    replace e3 : ss = [s, t, u] := e3
    subst e3
    cases e2
    refine ⟨Z, B, ρ, _, ρ1, ok, e1, fun B1 H1 vs s1 ok1 r1 => ?_⟩
    obtain ⟨v, w, y, rfl⟩ := reps_three r1
    obtain ⟨ok2, r2⟩ := ok1.setRs i r1
    obtain ⟨ok3, r3⟩ := ok2.setRs j r2
    obtain ⟨ok4, _⟩ := ok3.setRs l r3
    exact ⟨v, w, y, rfl, q B1 s1 _ H1 ok4⟩
  · cases e2
end

/-! ### defs by name -/
section
variable {P : Program} {w : World} {K : PySem.W.Frag} {mg : Str → Option Value} {base : Heap}
/-- the name x stands for a def that does F -/
structure CalR (P : Program) (w : World) (K : PySem.W.Frag) (mg : Str → Option Value) (base : Heap) (k : Nat) (x : Str) (n : Nat) (F : List PyData → Option Sl) : Prop where
  ex : ∃ f fd ps, FnOk P w K mg base CX0 k f fd ps (spR n F) ∧ mg x = some (.ref f) ∧ PySem.W.keepIn K (.ref f) = true ∧ Binds K fd ps []
structure CalB (P : Program) (w : World) (K : PySem.W.Frag) (mg : Str → Option Value) (base : Heap) (k : Nat) (x : Str) (n : Nat) (F : FBag) : Prop where
  ex : ∃ f fd ps, FnOk P w K mg base CX0 k f fd ps (spB n F) ∧ mg x = some (.ref f) ∧ PySem.W.keepIn K (.ref f) = true ∧ Binds K fd ps []
/-- a def as the top leaves it -/
structure DefAt (K : PySem.W.Frag) (mg : Str → Option Value) (x : Str) (st : Stmt) : Prop where
  ex : ∃ f fd, FunD K x x (defArgs st) (defBody st) (defScope st) [] [] f fd ∧ mg x = some (.ref f)
theorem calR_of {x : Str} {st : Stmt} {N ps : List Str} {k : Nat} {F : FS} (D : DefAt K mg x st) (S : FnScope N ps (defScope st)) (hl : ps.length ≤ N.length)
    (h : ∀ (kV doc pm : Value) (an : Option Addr) (cdv ct : Value) (us : List Value), us.length = ps.length → bindArgs (PySem.W.fnOf x x (defArgs st) (defBody st) (defScope st) .none kV doc pm an cdv ct) ⟨us, []⟩ = pure (ps.zip us))
    (hb : ∀ (f : Addr) (cdv : Value) (A : Around) (outer : List Env) (s : Shared) (H : Hp) (E : XK), Room k (A.deeper (envOfC x (defScope st) s.heap.objs.size f cdv)) → DSs (cxOf CX0 P w K mg base N x (defScope st) f cdv A outer s H E).nox (defBody st) F) :
    CalR P w K mg base (k + 1) x ps.length (runF N.length F) := by
  obtain ⟨f, fd, D, g⟩ := D.ex
  exact ⟨f, fd, ps, fn_ok D S hl (hb f), g, D.kp, D.bindsN h⟩
theorem calB_of {x : Str} {st : Stmt} {N ps : List Str} {k n : Nat} {F : FS} (D : DefAt K mg x st) (S : FnScope N ps (defScope st)) (hn : ps.length = n + 1) (hl : ps.length ≤ N.length)
    (h : ∀ (kV doc pm : Value) (an : Option Addr) (cdv ct : Value) (us : List Value), us.length = ps.length → bindArgs (PySem.W.fnOf x x (defArgs st) (defBody st) (defScope st) .none kV doc pm an cdv ct) ⟨us, []⟩ = pure (ps.zip us))
    (hb : ∀ (f : Addr) (cdv : Value) (A : Around) (outer : List Env) (s : Shared) (H : Hp) (E : XK), Room k (A.deeper (envOfC x (defScope st) s.heap.objs.size f cdv)) → DSs (cxOf CX0 P w K mg base N x (defScope st) f cdv A outer s H E).nox (defBody st) F) :
    CalB P w K mg base (k + 1) x n (runB N.length F) := by
  obtain ⟨f, fd, D, g⟩ := D.ex
  exact ⟨f, fd, ps, fnB_ok D S hn hl (hb f), g, D.kp, D.bindsN h⟩
end
section
variable {X : Cx} {j k n : Nat} {x y : Str} {p py pos : Pos} {e : Expr} {es : List Expr} {fa : FA}
theorem dr_fn {F : List PyData → Option Sl} (C : CalR X.prog X.w X.K X.mg X.base j x n F) (hr : Room k X.A) (ha : DA X (e :: es) fa) (hk : j ≤ k := by decide)
    (hg : Gl X x := by rfl) (hdb : (x == ("__debug__" : Str)) = false := by decide) (he : starEach (e :: es) X.env = (false, eval e X.env) :: starEach es X.env := by rfl) (hpl : (backTo pos (starEach es X.env)).any (·.1) = false := by rfl) :
    DR X (.Call (.Name x p) (e :: es) [] pos) (fCallR n F fa) := by
  obtain ⟨f, fd, ps, D, hm, hkp, hb⟩ := C.ex
  exact dr_call D (hr.mono hk) hm hkp hb ha hg hdb he hpl
theorem dr_fnB (i : Nat) {F : FBag} (C : CalB X.prog X.w X.K X.mg X.base j x n F) (hr : Room k X.A) (ha : DA X es fa) (hk : j ≤ k := by decide)
    (hg : Gl X x := by rfl) (hN : X.N[i]? = some y := by rfl) (hv : Vis X.env.scope y := by first | exact Or.inl rfl | exact Or.inr (Or.inl rfl) | exact Or.inr (Or.inr rfl)) (hdb : (x == ("__debug__" : Str)) = false := by decide) (hd : (y == ("__debug__" : Str)) = false := by decide)
    (hcd : (y == ("__classdict__" : Str)) = false := by decide) (he : starEach (.Name y py :: es) X.env = (false, eval (.Name y py) X.env) :: starEach es X.env := by rfl) (hpl : (backTo pos (starEach es X.env)).any (·.1) = false := by rfl) :
    DR X (.Call (.Name x p) (.Name y py :: es) [] pos) (fCallB i n F fa) := by
  obtain ⟨f, fd, ps, D, hm, hkp, hb⟩ := C.ex
  exact dr_callBg i D (hr.mono hk) hm hkp hb ha hg hN hv hdb hd hcd he hpl
end

/-! GMain: the bags made of the script, the law's main loop, the law's own contract; a def that calls itself. -/

/-! ### a def that calls itself: nothing is claimed at depth nought -/
theorem calR_none {P : Program} {w : World} {K : PySem.W.Frag} {mg : Str → Option Value} {base : Heap} {x : Str} {st : Stmt} {ps : List Str} {n k : Nat} (D : DefAt K mg x st)
    (h : ∀ (kV doc pm : Value) (an : Option Addr) (cdv ct : Value) (us : List Value), us.length = ps.length → bindArgs (PySem.W.fnOf x x (defArgs st) (defBody st) (defScope st) .none kV doc pm an cdv ct) ⟨us, []⟩ = pure (ps.zip us)) :
    CalR P w K mg base k x n (fun _ => none) := by
  obtain ⟨f, fd, D, g⟩ := D.ex
  have no : ∀ vs H Q E, ¬ spR n (fun _ => none) vs H Q E := fun vs H Q E ⟨_, _, _, _, _, _, _, _, _, _, z, _⟩ => by cases z
  exact ⟨f, fd, ps, ⟨fun vs H Q E z => (no vs H Q E z).elim, fun A outer s H args us vs Q E _ _ _ _ z => (no vs H Q E z).elim⟩, g, D.kp, D.bindsN h⟩

/-! ### slots that are known, among more -/
def Fits (ρL ρ : En) : Prop := ρL.length = ρ.length ∧ ∀ (j : Nat) s, ρL[j]? = some s → s = .un ∨ ρ[j]? = some s
theorem EnvOk.fits {Z : Zn} {B : Hp} {σ : L2.St} {H : Hp} {ρ ρL : En} (ok : EnvOk Z B σ H ρ) (h : Fits ρL ρ) : EnvOk Z B σ H ρL := by
  refine ⟨ok.le, ok.lz, ok.dj, ok.len.trans h.1.symm, fun i d e => ?_, fun i s e1 e2 => ?_, fun i xs e => ?_, fun i v e => ?_, fun i j s t a e1 e2 e3 e4 e5 e6 => ?_, ok.tb⟩
  · rcases h.2 i _ e with z | z
    · cases z
    · exact ok.sh i d z
  · rcases h.2 i _ e1 with z | z
    · subst z
      cases e2
    · exact ok.ow i s z e2
  · rcases h.2 i _ e with z | z
    · cases z
    · exact ok.io i xs z
  · rcases h.2 i _ e with z | z
    · cases z
      exact trivial
    · exact ok.ad i v z
  · rcases h.2 i _ e1 with z | z
    · subst z
      cases e2
    · rcases h.2 j _ e3 with y | y
      · subst y
        cases e4
      · exact ok.inj i j s t a z e2 y e4 e5 e6

/-! ### the bags -/
abbrev pBig : Int := 2305843009213693951
/-- a bag at its start, or later: three ints -/
def BagOk (n : Int) (b : List Int) : Prop := ∃ x y t, b = [x, y, t] ∧ 0 ≤ x ∧ 0 ≤ y ∧ y < pBig ∧ 0 ≤ t ∧ t ≤ n
def spBags (K : PySem.W.Frag) : Sp := fun vs H Q _ => ∃ (a : Addr) (ns : List Int) (m : Int), vs = [.ref a, .int m] ∧ TbS H ∧ SqL K H a (ns.map V.int) ∧ ns.length ≤ 63 ∧ 0 ≤ m ∧ m ≤ 63 ∧
  ∀ (H' : Hp) (L : Addr) (as : List Addr) (bs : List (List Int)), Same (exT H) H' → TbS H' → H L = none → H' L = some (.lst (as.map V.ref)) → as.length = bs.length → as.length ≤ 64 →
    (∀ (i : Nat) c b, as[i]? = some c → bs[i]? = some b → exT H c = none ∧ c ≠ L ∧ H' c = some (.lst (b.map V.int))) → as.Nodup → (∀ b ∈ bs, BagOk 100000 b) → Q (.ref L) H'
/-- an environment of ints alone, all that stands is to stay -/
theorem env_ints {σ : L2.St} {H : Hp} {ρ : En} (ht : TbS H) (hl : σ.length = ρ.length) (h : ∀ (i : Nat) s, ρ[i]? = some s → s = .un ∨ ∃ n, s = .sh (.int n) ∧ σ[i]? = some (some (.int n))) : EnvOk ⟨exT H, 0, 0⟩ (fun _ => none) σ H ρ := by
  refine ⟨fun a o e => (nomatch e), exT_le H, fun a o e => rfl, hl, fun i d e => ?_, fun i s e1 e2 => ?_, fun i xs e => ?_, fun i v e => ?_, fun i j s t a e1 e2 e3 e4 e5 e6 => ?_, ht.ok⟩
  · rcases h i _ e with z | ⟨n, z, k⟩
    · cases z
    · cases z
      exact ⟨_, k, .int n⟩
  · rcases h i _ e1 with z | ⟨n, z, k⟩ <;> subst z <;> cases e2
  · rcases h i _ e with z | ⟨n, z, k⟩ <;> cases z
  · rcases h i _ e with z | ⟨n, z, k⟩ <;> (cases z; exact trivial)
  · rcases h i _ e1 with z | ⟨n, z, k⟩ <;> subst z <;> cases e2
theorem bags_reading {K : PySem.W.Frag} {N : List Str} {F : List PyData → Option Sl} (hN : N.length = 4) (hF : ∀ c t : Int, ∃ x y, F [.int c, .int t] = some (.ow [.int x, .int y, .int t]) ∧ 0 ≤ x ∧ 0 ≤ y ∧ y < pBig)
    {vs : List V} {H : Hp} {Q : VK} {E : XK} (h : spBags K vs H Q E) :
    tRet (tLc (iEnum K (tCons (tOp rCat (tSl (rSlL K) (tVar 0) tNoPart (tPart (tVar 1))) (tLst (tCons (tC (.int 0)) tNil))) tNil)) (gTup K 2 (gCons (gName 2) (gCons (gName 3) gNil))) tYes
      (tR (fCallR 2 F (fCons (fVar 3) (fCons (fBin hMul (fC (.int 977)) (fVar 2)) fNil)))) [2, 3]) { nx := fun _ H' => Q .non H', rt := Q } (L2.start N vs) H := by
  obtain ⟨a, ns, m, rfl, ht0, hS, hlen, hm0, hm1, q⟩ := h
  have hσ : L2.start N [V.ref a, V.int m] = [some (.ref a), some (.int m), none, none] := by
    unfold L2.start
    rw [hN]
    rfl
  rw [hσ]
  -- script[:most] + [0]
  refine ⟨.ref a, rfl, .int m, rfl, m, rfl, a, _, rfl, hS, fun p hp => ?_⟩
  have s1 : Same H (upd H p (.lst (cutV (ns.map V.int) none (some m)))) := same_upd_new hp
  refine ⟨by decide, fun p2 hp2 => ?_⟩
  have np : p ≠ p2 := fun z => by
    rw [← z, upd_same] at hp2
    cases hp2
  have s2 := s1.trans (same_upd_new (o := .lst [V.int 0]) hp2)
  obtain ⟨ms, hms, hml⟩ : ∃ ms : List Int, cutV (ns.map V.int) none (some m) ++ [V.int 0] = ms.map V.int ∧ ms.length ≤ 64 := by
    refine ⟨(ns.take (HT.sIx (ns.map V.int).length (ns.map V.int).length (some m))) ++ [0], ?_, ?_⟩
    · unfold cutV
      rw [HT.sIx_none, List.drop_zero, Nat.sub_zero, List.map_append, List.map_take]
      rfl
    · rw [List.length_append, List.length_take]
      have : ([0] : List Int).length = 1 := rfl
      omega
  refine ⟨p, p2, _, _, rfl, rfl, by rw [upd_ne np, upd_same], upd_same, ?_, fun l hl => ?_⟩
  · have e1 : (cutV (ns.map V.int) none (some m)).length + [V.int 0].length = (ms.map V.int).length := by rw [← List.length_append, hms]
    rw [e1, List.length_map]
    exact Nat.le_trans hml (by decide)
  rw [hms]
  have s3 := s2.trans (same_upd_new (o := .lst (ms.map V.int)) hl)
  refine ⟨l, ms.map V.int, rfl, SqL.of upd_same, fun D hD => ?_⟩
  generalize hG : upd (upd (upd H p (.lst (cutV (ns.map V.int) none (some m)))) p2 (.lst [V.int 0])) l (.lst (ms.map V.int)) = G0 at hD s3
  have hGl : G0 l = some (.lst (ms.map V.int)) := by rw [← hG]; exact upd_same
  have tG : TbS G0 := ht0.ext s3
  have hHD : H D = none := s3.free hD
  -- the loop
  refine ⟨fun i k H2 => k = ms.length - i ∧ i ≤ ms.length ∧ (Same (exT G0) H2 ∧ TbS H2) ∧ ∃ (as : List Addr) (bs : List (List Int)), H2 D = some (.lst (as.map V.ref)) ∧ as.length = i ∧ bs.length = i ∧
      (∀ (j : Nat) c b, as[j]? = some c → bs[j]? = some b → exT H c = none ∧ c ≠ D ∧ H2 c = some (.lst (b.map V.int))) ∧ as.Nodup ∧ (∀ b ∈ bs, BagOk 100000 b),
    ⟨ms.length, by simp, Nat.zero_le _, ⟨(exT_le G0).trans (same_upd_new hD), tG.ext (same_upd_new hD)⟩, [], [], upd_same, rfl, rfl, fun j c b z => by simp at z, List.nodup_nil, fun b z => by cases z⟩, fun i k H2 hW => ?_⟩
  obtain ⟨rfl, hi, ⟨sm, ht2⟩, as, bs, hD2, ha, hb, hab, hnd, hok⟩ := hW
  have hq : SqL K H2 l (ms.map V.int) := SqL.of (exT_get sm hGl trivial)
  by_cases hlt : i < ms.length
  · have hg : (ms.map V.int)[i]? = some (V.int ms[i]) := by
      rw [List.getElem?_map, List.getElem?_eq_getElem hlt]
      rfl
    refine .inr ⟨⟨_, _, hq, hg⟩, fun H' => (Same (exT G0) H' ∧ TbS H') ∧ ∃ (as : List Addr) (bs : List (List Int)), H' D = some (.lst (as.map V.ref)) ∧ as.length = i + 1 ∧ bs.length = i + 1 ∧
      (∀ (j : Nat) c b, as[j]? = some c → bs[j]? = some b → exT H c = none ∧ c ≠ D ∧ H' c = some (.lst (b.map V.int))) ∧ as.Nodup ∧ (∀ b ∈ bs, BagOk 100000 b), fun H' hN => ⟨ms.length - (i + 1), by omega, rfl, hlt, hN⟩, fun x H3 hy => ?_⟩
    obtain ⟨T, x', rfl, hT, rfl, hx'⟩ := hy
    have ex : x' = V.int ms[i] := Option.some.inj ((hx' _ hq).symm.trans hg)
    subst ex
    refine ⟨T, _, rfl, SqT.of upd_same, rfl, _, _, rfl, _, _, rfl, rfl, rfl, ?_⟩
    show tR (fCallR 2 F (fCons (fVar 3) (fCons (fBin hMul (fC (.int 977)) (fVar 2)) fNil))) [some (V.ref a), some (V.int m), some (V.int (i : Nat)), some (V.int ms[i])] (upd H2 T (.tup [V.int (i : Nat), V.int ms[i]])) _
    have s4 : Same H2 (upd H2 T (.tup [V.int (i : Nat), V.int ms[i]])) := same_upd_new hT
    generalize hH3 : upd H2 T (.tup [V.int (i : Nat), V.int ms[i]]) = H3 at s4
    obtain ⟨u, y, hF1, h1, h2, h3⟩ := hF ms[i] (977 * (i : Int))
    have ht3 : TbS H3 := ht2.ext s4
    have env : EnvOk ⟨exT H3, 0, 0⟩ (fun _ => none) [some (V.ref a), some (V.int m), some (V.int (i : Nat)), some (V.int ms[i])] H3 [.un, .un, .sh (.int (i : Nat)), .sh (.int ms[i])] := env_ints ht3 rfl fun j s e => by
      match j, e with
      | 0, e => cases e; exact .inl rfl
      | 1, e => cases e; exact .inl rfl
      | 2, e => cases e; exact .inr ⟨_, rfl, rfl⟩
      | 3, e => cases e; exact .inr ⟨_, rfl, rfl⟩
      | j + 4, e => cases e
    refine ⟨⟨exT H3, 0, 0⟩, fun _ => none, _, .ow [.int u, .int y, .int (977 * (i : Int))], [.un, .un, .sh (.int (i : Nat)), .sh (.int ms[i])], env, ?_, fun B' H4 v s5 ok5 r5 => ?_⟩
    · show (fCallR 2 F (fCons (fVar 3) (fCons (fBin hMul (fC (.int 977)) (fVar 2)) fNil))) [.un, .un, .sh (.int (i : Nat)), .sh (.int ms[i])] = some (.ow [.int u, .int y, .int (977 * (i : Int))], [.un, .un, .sh (.int (i : Nat)), .sh (.int ms[i])])
      have e1 : hMul (.int 977) (.int (i : Nat)) = some (.int (977 * (i : Int))) := by
        show (if (-18446744073709551616 < (977 : Int) ∧ (977 : Int) < 18446744073709551616) ∨ (-18446744073709551616 < (i : Int) ∧ (i : Int) < 18446744073709551616) then some (PyData.int (977 * (i : Int))) else none) = _
        exact if_pos (Or.inl (by decide))
      simp only [fCallR, fCons, fVar, fBin, fC, fNil, Option.bind_some, Option.map_some, List.getElem?_cons_succ, List.getElem?_cons_zero, e1, List.length_cons, List.length_nil, hF1, if_true]
    · rcases r5 with ⟨d, z, _⟩ | ⟨c, o, rfl, g1, g2, g3, g4, g5, g6⟩
      · cases z
      · cases o with
        | lst vs =>
          have g7 : vs = [u, y, 977 * (i : Int)].map V.int := DrAll.ints_inv [u, y, 977 * (i : Int)] g5
          subst g7
          have g8 : exT H3 c = none := g3
          have s6 : Same (exT H3) H4 := ok5.lz
          have ht4 : TbS H4 := ok5.tb.s
          have hD4 : H4 D = some (.lst (as.map V.ref)) := exT_get s6 (s4 _ _ hD2) trivial
          have hc2 : exT H2 c = none := (exT_mono s4).free g8
          have cD : c ≠ D := fun z => by
            rw [z, exT_of (isT_at hD2 trivial), hD2] at hc2
            cases hc2
          have hcH : exT H c = none := (exT_mono s3).free ((exT_idem sm).free hc2)
          have cas : c ∉ as := fun z => by
            obtain ⟨j, hj, e⟩ := List.mem_iff_getElem.mp z
            obtain ⟨k1, k2, k3⟩ := hab j c (bs[j]'(by omega)) (by rw [List.getElem?_eq_getElem hj, e]) (List.getElem?_eq_getElem (by omega))
            rw [exT_of (isT_at k3 trivial), k3] at hc2
            cases hc2
          refine ⟨as.map V.ref, hD4, by rw [List.length_map, ha]; exact Nat.lt_of_le_of_lt (Nat.le_trans (Nat.le_of_lt hlt) hml) (by decide), ?_, as ++ [c], bs ++ [[u, y, 977 * (i : Int)]], ?_, by rw [List.length_append, ha]; rfl, by rw [List.length_append, hb]; rfl, fun j d b k1 k2 => ?_, ?_, fun b hb' => ?_⟩
          · exact ⟨same_upd_right ((exT_idem sm).trans ((exT_mono s4).trans s6)) ((exT_le G0).free hD), ht4.nt fun u z => by rw [hD4] at z; cases z; trivial⟩
          · rw [upd_same, List.map_append]
            rfl
          · by_cases hj : j < i
            · rw [List.getElem?_append_left (by omega)] at k1 k2
              obtain ⟨k3, k4, k5⟩ := hab j d b k1 k2
              exact ⟨k3, k4, by rw [upd_ne k4]; exact exT_get s6 (s4 _ _ k5) trivial⟩
            · rw [List.getElem?_append_right (by omega), ha] at k1
              rw [List.getElem?_append_right (by omega), hb] at k2
              have ej : j - i = 0 := by
                cases ez : j - i with
                | zero => rfl
                | succ z =>
                  rw [ez] at k1
                  simp at k1
              rw [ej] at k1 k2
              cases k1
              cases k2
              exact ⟨hcH, cD, by rw [upd_ne cD]; exact g1⟩
          · exact List.nodup_append.mpr ⟨hnd, List.nodup_cons.mpr ⟨by simp, List.nodup_nil⟩, fun x hx y hy e => by
              rw [List.mem_singleton] at hy
              rw [e, hy] at hx
              exact cas hx⟩
          · rcases List.mem_append.mp hb' with z | z
            · exact hok b z
            · rw [List.mem_singleton] at z
              subst z
              exact ⟨u, y, _, rfl, h1, h2, h3, by omega, by omega⟩
        | _ => exact g5.elim
  · have e : i = ms.length := by omega
    refine .inl ⟨⟨_, hq, by rw [List.length_map]; omega⟩, ?_⟩
    exact q H2 D as bs ((exT_mono s3).trans sm) ht2 hHD hD2 (by omega) (by omega) hab hnd hok

/-! ### the main loop -/
def tMain (K : PySem.W.Frag) (m : Int) (ib : Nat) (F : FS) : TS := fun D σ H => ∃ (Z : Zn) (B : Hp) (ρ ρL : En) (a : Addr) (ns : List Int), EnvOk Z B σ H ρ ∧ Fits ρL ρ ∧ (∀ (j : Nat) s, ρL[j]? = some s → isOwn s = false) ∧ ρ[0]? = some (.ad (.ref a)) ∧
  (∀ H', Same Z.fr H' → SqL K H' a (ns.map V.int)) ∧ ns.length ≤ 63 ∧ 0 ≤ m ∧ m ≤ 63 ∧ (∀ b, BagOk 100000 b → ∃ ρ', F (ρL.set ib (.ow (b.map PyData.int))) = some (.nx ρ') ∧ Fits ρL ρ') ∧ ρL[ib]? = some .un ∧
  ∀ B' σ' H', Same B B' → EnvOk Z B' σ' H' ρL → D.nx σ' H'
structure CalBags (P : Program) (w : World) (K : PySem.W.Frag) (mg : Str → Option Value) (base : Heap) (k : Nat) : Prop where
  ex : ∃ f fd ps, FnOk P w K mg base CX0 k f fd ps (spBags K) ∧ mg "_law_bags" = some (.ref f) ∧ PySem.W.keepIn K (.ref f) = true ∧ Binds K fd ps []
theorem list_set_un {ρL : En} {ib : Nat} (h : ρL[ib]? = some .un) {s : Sl} : (ρL.set ib s).set ib .un = ρL := by
  rw [List.set_set]
  exact set_self h
theorem ps_main {X : Cx} {j k : Nat} {m : Int} (ib : Nat) {body : List Stmt} {F : FS} {p1 p2 p3 p4 p5 pos : Pos} {kk} (C : CalBags X.prog X.w X.K X.mg X.base j) (hr : Room k X.A) (hb : DSs X body F) (hN : X.N.Nodup) (hk : j ≤ k := by decide) (hi : X.N[ib]? = some ("bag" : Str) := by rfl) (h0 : X.N[0]? = some ("script" : Str) := by rfl)
    (hx : Loc X.env.scope "bag" := by first | exact Or.inl rfl | exact Or.inr rfl) (hv : Vis X.env.scope "script" := by first | exact Or.inl rfl | exact Or.inr (Or.inl rfl)) (hg : Gl X "_law_bags" := by rfl)
    (hf : X.fn "bag" = true ∨ X.env.scope.names.lookup ("bag" : Str) = some .local := by first | exact .inl rfl | exact .inr rfl) (hc : X.calm = true := by rfl) (hp : PassesOwn (model X.prog X.w) X.A X.env X.xe := by exact PassesOwn.never)
    (e1 : starEach [.Name "script" p3, .Constant (.int m) kk p4] X.env = (false, eval (.Name "script" p3) X.env) :: starEach [.Constant (.int m) kk p4] X.env := by rfl)
    (e2 : starEach [.Constant (.int m) kk p4] X.env = (false, eval (.Constant (.int m) kk p4) X.env) :: starEach [] X.env := by rfl) (e3 : (backTo p5 (starEach [.Constant (.int m) kk p4] X.env)).any (·.1) = false := by rfl)
    (hs : ∀ x, foldedSetIterable (.Call (.Name "_law_bags" p2) [.Name "script" p3, .Constant (.int m) kk p4] [] p5) X.env x = pure x := by intro _; rfl) :
    PS X (.For (.Name "bag" p1) (.Call (.Name "_law_bags" p2) [.Name "script" p3, .Constant (.int m) kk p4] [] p5) body [] pos) (tMain X.K m ib F) := by
  obtain ⟨f, fd, ps, D0, hm, hkp, hbd⟩ := C.ex
  refine ps_imp (ps_for hp hc (pi_list (pe_call D0 (hr.mono hk) hg hm hkp hbd .nil pass0 (pa_cons (pe_var h0 hv (by decide) (by decide)) (pa_cons pe_int pa_nil e2) e1) (by decide) e1 e3)) (pg_name hN hi hx hf) hb hs) fun D σ H q0 => ?_
  obtain ⟨Z, B, ρ, ρL, a, ns, ok, hfit, hno, h1, hS, hlen, hm0, hm1, hF, hib, q⟩ := q0
  have okL : EnvOk Z B σ H ρL := ok.fits hfit
  refine ⟨.ref a, ok.ad 0 _ h1, a, ns, m, rfl, ok.tb.s, hS H ok.lz, hlen, hm0, hm1, fun H' L as bs sm tS hL hL' hab hle hA hnd hbs => ?_⟩
  refine ⟨L, rfl, ⟨_, SqL.of hL'⟩, ?_⟩
  let Zk : Nat → Zn := fun i => ⟨fun c => if c = L ∨ c ∈ as.drop i then H' c else Z.fr c, Z.bag, Z.pin⟩
  have fresh : ∀ c ∈ as, exT H c = none ∧ c ≠ L := fun c hc => by
    obtain ⟨j, hj, e⟩ := List.mem_iff_getElem.mp hc
    obtain ⟨k1, k2, _⟩ := hA j c (bs[j]'(by omega)) (by rw [List.getElem?_eq_getElem hj, e]) (List.getElem?_eq_getElem (by omega))
    exact ⟨k1, k2⟩
  have zL : Z.fr L = none := ok.lz.free hL
  have start : EnvOk (Zk 0) B σ H' ρL := by
    refine ⟨okL.leX.trans sm, fun c o e => ?_, fun c o e => ?_, okL.len, okL.sh, fun i s z1 z2 => ?_, okL.io, okL.ad, okL.inj, ⟨fun c => ?_, okL.tb.b, tS⟩⟩
    · have e' : (if c = L ∨ c ∈ as.drop 0 then H' c else Z.fr c) = some o := e
      split at e'
      · exact e'
      · exact sm _ _ (okL.lzX _ _ e')
    · have e' : (if c = L ∨ c ∈ as.drop 0 then H' c else Z.fr c) = some o := e
      split at e'
      · rename_i hc
        rcases hc with rfl | hc
        · exact okL.le.free hL
        · exact okL.leX.free (fresh c hc).1
      · exact okL.dj _ _ e'
    · rw [hno i s z1] at z2
      cases z2
    · show isT (if c = L ∨ c ∈ as.drop 0 then H' c else Z.fr c) = false
      split
      · rename_i hc
        rcases hc with rfl | hc
        · rw [hL']
          rfl
        · obtain ⟨j, hj, e⟩ := List.mem_iff_getElem.mp hc
          have hj' : j < as.length := hj
          obtain ⟨_, _, k3⟩ := hA j c (bs[j]'(by omega)) (by rw [List.getElem?_eq_getElem hj']; exact congrArg some e) (List.getElem?_eq_getElem (by omega))
          rw [k3]
          rfl
      · exact okL.tb.z c
  refine ⟨fun i n σ2 H2 => n = as.length - i ∧ i ≤ as.length ∧ ∃ B2, Same B B2 ∧ EnvOk (Zk i) B2 σ2 H2 ρL, ⟨as.length, by simp, Nat.zero_le _, B, Same.refl B, start⟩, fun i n σ2 H2 hW => ?_⟩
  obtain ⟨rfl, hi', B2, s2, ok2⟩ := hW
  have hL2 : H2 L = some (.lst (as.map V.ref)) := ok2.lz L _ (by show (if L = L ∨ L ∈ as.drop i then H' L else Z.fr L) = _; rw [if_pos (.inl rfl)]; exact hL')
  by_cases hlt : i < as.length
  · have hc : as[i]? = some as[i] := List.getElem?_eq_getElem hlt
    have hb' : bs[i]? = some (bs[i]'(by omega)) := List.getElem?_eq_getElem (by omega)
    obtain ⟨k1, k2, k3⟩ := hA i _ _ hc hb'
    have hg' : (as.map V.ref)[i]? = some (V.ref as[i]) := by rw [List.getElem?_map, hc]; rfl
    have hdrop : as.drop i = as[i] :: as.drop (i + 1) := List.drop_eq_getElem_cons hlt
    have notin : as[i] ∉ as.drop (i + 1) := by
      have h2 : (as.drop i).Nodup := hnd.sublist (List.drop_sublist i as)
      rw [hdrop] at h2
      exact (List.nodup_cons.mp h2).1
    refine .inr ⟨⟨_, _, SqL.of hL2, hg'⟩, fun σ' H3 => ∃ B3, Same B B3 ∧ EnvOk (Zk (i + 1)) B3 σ' H3 ρL, fun σ' H3 hN => ⟨as.length - (i + 1), by omega, rfl, hlt, hN⟩, fun x H3 hy => ?_⟩
    obtain ⟨rfl, hx'⟩ := hy
    have ex : x = V.ref as[i] := Option.some.inj ((hx' _ (SqL.of hL2)).symm.trans hg')
    subst ex
    have hZi : (Zk i).fr as[i] = some (.lst ((bs[i]'(by omega)).map V.int)) := by
      show (if as[i] = L ∨ as[i] ∈ as.drop i then H' as[i] else Z.fr as[i]) = _
      rw [if_pos (.inr (by rw [hdrop]; exact List.mem_cons_self))]
      exact k3
    have hZi1 : (Zk (i + 1)).fr as[i] = none := by
      show (if as[i] = L ∨ as[i] ∈ as.drop (i + 1) then H' as[i] else Z.fr as[i]) = none
      rw [if_neg (fun z => z.elim k2 notin)]
      exact ok.lzX.free k1
    have szz : Same (Zk (i + 1)).fr (Zk i).fr := fun c o e => by
      have e' : (if c = L ∨ c ∈ as.drop (i + 1) then H' c else Z.fr c) = some o := e
      show (if c = L ∨ c ∈ as.drop i then H' c else Z.fr c) = some o
      split at e'
      · rename_i hc'
        rw [if_pos (hc'.imp id fun z => by rw [hdrop]; exact List.mem_cons_of_mem _ z)]
        exact e'
      · by_cases hc2 : c = L ∨ c ∈ as.drop i
        · rw [if_pos hc2]
          exact sm _ _ (ok.lzX _ _ e')
        · rw [if_neg hc2]
          exact e'
    have ok3 : EnvOk (Zk (i + 1)) B2 (σ2.set ib (some (.ref as[i]))) H3 (ρL.set ib (.ow ((bs[i]'(by omega)).map PyData.int))) :=
      (ok2.zle szz rfl).setOw ib (ok2.lz _ _ hZi) (ok2.dj _ _ hZi) hZi1 (fun j s z1 z2 => by
        rw [hno j s z1] at z2
        cases z2) (DrAll.ints _) (fun z => nomatch z)
    obtain ⟨ρ', hF1, hF2⟩ := hF _ (hbs _ (List.mem_of_getElem? hb'))
    exact ⟨Zk (i + 1), B2, _, _, ok3, hF1, fun B4 s4 σ' H4 ok4 => ⟨B4, s2.trans s4, ok4.fits hF2⟩⟩
  · have e : i = as.length := by omega
    refine .inl ⟨⟨_, SqL.of hL2, by rw [List.length_map]; omega⟩, ?_⟩
    refine q B2 σ2 H2 s2 (ok2.zle (fun c o z => ?_) rfl)
    show (if c = L ∨ c ∈ as.drop i then H' c else Z.fr c) = some o
    by_cases hc2 : c = L ∨ c ∈ as.drop i
    · rw [if_pos hc2]
      exact sm _ _ (ok.lzX _ _ z)
    · rw [if_neg hc2]
      exact z

/-! ### the law -/
/-- the law's promise: True -/
def spLaw (K : PySem.W.Frag) : Sp := fun vs H Q _ => ∃ (a : Addr) (ns : List Int), vs = [.ref a] ∧ TbS H ∧ SqL K H a (ns.map V.int) ∧ ns.length ≤ 63 ∧ ∀ H', Q (.bl true) H'
theorem env_law {H : Hp} {N : List Str} {a : Addr} (hN : 0 < N.length) (ht : TbS H) : EnvOk ⟨exT H, 0, 0⟩ (fun _ => none) (L2.start N [.ref a]) H (.ad (.ref a) :: List.replicate (N.length - 1) .un) := by
  have hat : ∀ (i : Nat) s, (Sl.ad (.ref a) :: List.replicate (N.length - 1) Sl.un)[i]? = some s → (i = 0 ∧ s = .ad (.ref a)) ∨ s = .un := fun i s e => by
    cases i with
    | zero =>
      cases e
      exact .inl ⟨rfl, rfl⟩
    | succ i => exact .inr (List.eq_of_mem_replicate (List.mem_of_getElem? (show (List.replicate (N.length - 1) Sl.un)[i]? = some s from e)))
  refine ⟨fun c o e => (nomatch e), exT_le H, fun c o e => rfl, ?_, fun i d e => ?_, fun i s e1 e2 => ?_, fun i xs e => ?_, fun i v e => ?_, fun i j s t b e1 e2 e3 e4 e5 e6 => ?_, ht.ok⟩
  · rw [start_length (by exact hN), List.length_cons, List.length_replicate]
    omega
  · rcases hat i _ e with ⟨_, z⟩ | z <;> cases z
  · rcases hat i _ e1 with ⟨_, z⟩ | z <;> subst z <;> cases e2
  · rcases hat i _ e with ⟨_, z⟩ | z <;> cases z
  · rcases hat i _ e with ⟨h, z⟩ | z
    · cases z
      rw [h]
      exact start_at rfl
    · cases z
      exact trivial
  · rcases hat i _ e1 with ⟨_, z⟩ | z <;> subst z <;> cases e2

/-! GSimp: the pure functions by simp. -/
@[simp] theorem fFz_eq (f : FR) (ρ : En) : fFz f ρ = (f ρ).bind fun p => (fzS p.1).map fun d => (d, p.2) := rfl
@[simp] theorem fSh_eq (f : FE) (ρ : En) : fSh f ρ = (f ρ).map fun p => (.sh p.1, p.2) := rfl
@[simp] theorem fzS_sh (d : PyData) : fzS (.sh d) = some d := rfl
@[simp] theorem fzS_ow (d : List PyData) : fzS (.ow d) = some (.list d) := rfl
@[simp] theorem fC_eq (d : PyData) (ρ : En) : fC d ρ = some (d, ρ) := rfl
@[simp] theorem fNil_eq (ρ : En) : fNil ρ = some ([], ρ) := rfl
@[simp] theorem fCons_eq (f : FE) (g : FA) (ρ : En) : fCons f g ρ = (f ρ).bind fun p => (g p.2).map fun q => (p.1 :: q.1, q.2) := rfl
@[simp] theorem fBin_eq (h : PyData → PyData → Option PyData) (f g : FE) (ρ : En) : fBin h f g ρ = (f ρ).bind fun p => (g p.2).bind fun q => (h p.1 q.1).map fun z => (z, q.2) := rfl
@[simp] theorem fUn_eq (h : PyData → Option PyData) (f : FE) (ρ : En) : fUn h f ρ = (f ρ).bind fun p => (h p.1).map fun z => (z, p.2) := rfl
@[simp] theorem fB_eq (f : FE) (ρ : En) : fB f ρ = (f ρ).bind fun p => (blD p.1).map fun b => (b, p.2) := rfl
@[simp] theorem blD_bool (b : Bool) : blD (.bool b) = some b := rfl
theorem fChain_run {h1 h2 : PyData → PyData → Option PyData} {f g k : FE} {ρ ρ1 ρ2 ρ3 : En} {x y z : PyData} {b c : Bool} (e1 : f ρ = some (x, ρ1)) (e2 : g ρ1 = some (y, ρ2)) (e3 : h1 x y = some (.bool b)) (e4 : k ρ2 = some (z, ρ2)) (e5 : h2 y z = some (.bool c)) :
    fChain h1 h2 f g k ρ = some (.bool (b && c), ρ2) := by
  unfold fChain
  rw [e1, Option.bind_some]
  show (g ρ1).bind _ = _
  rw [e2, Option.bind_some]
  show (h1 x y).bind _ = _
  rw [e3, Option.bind_some]
  cases b with
  | true =>
    show (k ρ2).bind _ = _
    rw [e4, Option.bind_some]
    show (h2 y z).map _ = _
    rw [e5]
    rfl
  | false => rfl
@[simp] theorem fChain_eq (h1 h2 : PyData → PyData → Option PyData) (f g k : FE) (ρ : En) : fChain h1 h2 f g k ρ = (f ρ).bind fun p => (g p.2).bind fun q => (h1 p.1 q.1).bind fun z => match z with
  | .bool true => (k q.2).bind fun r => (h2 q.1 r.1).map fun w => (w, r.2)
  | .bool false => some (.bool false, q.2)
  | _ => none := rfl
@[simp] theorem fAndT_eq (f g : FT) (ρ : En) : fAndT f g ρ = (f ρ).bind fun p => if p.1 = true then g p.2 else some (false, p.2) := rfl
@[simp] theorem fOrT_eq (f g : FT) (ρ : En) : fOrT f g ρ = (f ρ).bind fun p => if p.1 = true then some (true, p.2) else g p.2 := rfl
@[simp] theorem fNotT_eq (f : FT) (ρ : En) : fNotT f ρ = (f ρ).map fun p => (!p.1, p.2) := rfl
@[simp] theorem fAndV_eq (f g : FE) (ρ : En) : fAndV f g ρ = (f ρ).bind fun p => match p.1 with
  | .bool true => g p.2
  | .bool false => some (.bool false, p.2)
  | _ => none := rfl
@[simp] theorem fOrV_eq (f g : FE) (ρ : En) : fOrV f g ρ = (f ρ).bind fun p => match p.1 with
  | .bool false => g p.2
  | .bool true => some (.bool true, p.2)
  | _ => none := rfl
@[simp] theorem fIfE_eq (c : FT) (f g : FE) (ρ : En) : fIfE c f g ρ = (c ρ).bind fun p => if p.1 = true then f p.2 else g p.2 := rfl
@[simp] theorem fTup_eq (f : FA) (ρ : En) : fTup f ρ = (f ρ).bind fun p => if p.1.length ≤ 16777216 then some (.tuple p.1, p.2) else none := rfl
@[simp] theorem fLst_eq (f : FA) (ρ : En) : fLst f ρ = (f ρ).bind fun p => if p.1.length ≤ 16777216 then some (.ow p.1, p.2) else none := rfl
@[simp] theorem fVar_eq (i : Nat) (ρ : En) : fVar i ρ = match ρ[i]? with
  | some (.sh d) => some (d, ρ)
  | some (.ow xs) => some (.list xs, ρ.set i (.sh (.list xs)))
  | _ => none := rfl
@[simp] theorem fIxO_eq (i : Nat) (g : FE) (ρ : En) : fIxO i g ρ = (g ρ).bind fun p => (ownL ρ[i]?).bind fun _ => (ownL p.2[i]?).bind fun xs => match p.1 with
  | .int k => (atI xs k).map fun d => (d, p.2)
  | _ => none := rfl
@[simp] theorem ownL_ow (xs : List PyData) : ownL (some (.ow xs)) = some xs := rfl
@[simp] theorem ownL_io (xs : List PyData) : ownL (some (.io xs)) = some xs := rfl
@[simp] theorem newL_ow (xs ys : List PyData) : newL (some (.ow xs)) ys = .ow ys := rfl
@[simp] theorem newL_io (xs ys : List PyData) : newL (some (.io xs)) ys = .io ys := rfl
@[simp] theorem fNo_eq (ρ : En) : fNo ρ = some (none, ρ) := rfl
@[simp] theorem fPt_eq (f : FE) (ρ : En) : fPt f ρ = (f ρ).bind fun p => match p.1 with
  | .int i => some (some i, p.2)
  | _ => none := rfl
@[simp] theorem fCut_eq (f : FE) (l h : FO) (ρ : En) : fCut f l h ρ = (f ρ).bind fun p => (l p.2).bind fun q => (h q.2).bind fun r => (hCut q.1 r.1 p.1).map fun s => (s, r.2) := rfl
@[simp] theorem hCut_l (lo hi : Option Int) (xs : List PyData) : hCut lo hi (.list xs) = some (.ow (cutD xs lo hi)) := rfl
@[simp] theorem hCut_t (lo hi : Option Int) (xs : List PyData) : hCut lo hi (.tuple xs) = some (.sh (.tuple (cutD xs lo hi))) := rfl
@[simp] theorem fCall_eq (h : List PyData → Option Sl) (k : FA) (ρ : En) : fCall h k ρ = (k ρ).bind fun p => (h p.1).map fun s => (s, p.2) := rfl
@[simp] theorem fCallR_eq (n : Nat) (F : List PyData → Option Sl) (k : FA) (ρ : En) : fCallR n F k ρ = (k ρ).bind fun p => if p.1.length = n then (F p.1).map fun s => (s, p.2) else none := rfl
@[simp] theorem fCallB_eq (i n : Nat) (F : FBag) (k : FA) (ρ : En) : fCallB i n F k ρ = (ownL ρ[i]?).bind fun _ => (k ρ).bind fun p => if p.1.length = n then (ownL p.2[i]?).bind fun bs => (F bs p.1).map fun r => (r.1, p.2.set i (newL p.2[i]? r.2)) else none := rfl
/-! data -/
@[simp] theorem hAdd_i (i j : Int) : hAdd (.int i) (.int j) = some (.int (i + j)) := rfl
@[simp] theorem hAdd_l (xs ys : List PyData) : hAdd (.list xs) (.list ys) = if xs.length + ys.length ≤ 16777216 then some (.list (xs ++ ys)) else none := rfl
@[simp] theorem hAdd_t (xs ys : List PyData) : hAdd (.tuple xs) (.tuple ys) = if xs.length + ys.length ≤ 16777216 then some (.tuple (xs ++ ys)) else none := rfl
@[simp] theorem hSub_i (i j : Int) : hSub (.int i) (.int j) = some (.int (i - j)) := rfl
theorem hMul_i (i j : Int) : hMul (.int i) (.int j) = if (-18446744073709551616 < i ∧ i < 18446744073709551616) ∨ (-18446744073709551616 < j ∧ j < 18446744073709551616) then some (.int (i * j)) else none := rfl
theorem hMul_l {i j : Int} (h : -18446744073709551616 < i ∧ i < 18446744073709551616) : hMul (.int i) (.int j) = some (.int (i * j)) := by rw [hMul_i, if_pos (Or.inl h)]
theorem hMul_r {i j : Int} (h : -18446744073709551616 < j ∧ j < 18446744073709551616) : hMul (.int i) (.int j) = some (.int (i * j)) := by rw [hMul_i, if_pos (Or.inr h)]
theorem hMod_p {i j : Int} (h : 0 < j) : hMod (.int i) (.int j) = some (.int (i % j)) := if_pos h
theorem hDiv_p {i j : Int} (h : 0 < j ∧ j < 18446744073709551616) : hDiv (.int i) (.int j) = some (.int (i / j)) := if_pos h
@[simp] theorem hNeg_i (i : Int) : hNeg (.int i) = some (.int (-i)) := rfl
@[simp] theorem hNot_b (b : Bool) : hNot (.bool b) = some (.bool (!b)) := rfl
@[simp] theorem hLt_i (i j : Int) : hLt (.int i) (.int j) = some (.bool (decide (i < j))) := rfl
@[simp] theorem hLe_i (i j : Int) : hLe (.int i) (.int j) = some (.bool (decide (i ≤ j))) := rfl
@[simp] theorem hGt_i (i j : Int) : hGt (.int i) (.int j) = some (.bool (decide (j < i))) := rfl
@[simp] theorem hGe_i (i j : Int) : hGe (.int i) (.int j) = some (.bool (decide (j ≤ i))) := rfl
@[simp] theorem hEq_i (i j : Int) : hEq (.int i) (.int j) = some (.bool (i == j)) := rfl
@[simp] theorem hNe_i (i j : Int) : hNe (.int i) (.int j) = some (.bool (!(i == j))) := rfl
@[simp] theorem hIx_l (xs : List PyData) (i : Int) : hIx (.list xs) (.int i) = atI xs i := rfl
@[simp] theorem hIx_t (xs : List PyData) (i : Int) : hIx (.tuple xs) (.int i) = atI xs i := rfl
@[simp] theorem atI_0 {α : Type} (x : α) (xs : List α) : atI (x :: xs) 0 = some x := atI_nat (j := 0) rfl
@[simp] theorem atI_1 {α : Type} (x y : α) (xs : List α) : atI (x :: y :: xs) 1 = some y := atI_nat (j := 1) rfl
@[simp] theorem atI_2 {α : Type} (x y z : α) (xs : List α) : atI (x :: y :: z :: xs) 2 = some z := atI_nat (j := 2) rfl
@[simp] theorem hLen_l (xs : List PyData) : hLen [.list xs] = some (.sh (.int xs.length)) := rfl
@[simp] theorem hLen_t (xs : List PyData) : hLen [.tuple xs] = some (.sh (.int xs.length)) := rfl
@[simp] theorem hAbs_i (i : Int) : hAbs [.int i] = some (.sh (.int (if i < 0 then -i else i))) := rfl
@[simp] theorem hList_t (xs : List PyData) : hList [.tuple xs] = some (.ow xs) := rfl
@[simp] theorem hList_l (xs : List PyData) : hList [.list xs] = some (.ow xs) := rfl
@[simp] theorem hTuple_t (xs : List PyData) : hTuple [.tuple xs] = some (.sh (.tuple xs)) := rfl
@[simp] theorem hTuple_l (xs : List PyData) : hTuple [.list xs] = some (.sh (.tuple xs)) := rfl
@[simp] theorem hAll_l (xs : List PyData) : hAll [.list xs] = (boolsO xs).map fun bs => .sh (.bool (bs.all id)) := rfl
@[simp] theorem hSum_l (xs : List PyData) : hSum [.list xs] = (intsO xs).map fun bs => .sh (.int bs.sum) := rfl
@[simp] theorem hSorted_l (xs : List PyData) : hSorted [.list xs] = (intsO xs).map fun ns => .ow ((srtI ns).map PyData.int) := rfl
@[simp] theorem hMax_i (i j : Int) : hMax [.int i, .int j] = some (.sh (.int (if j > i then j else i))) := rfl
@[simp] theorem hMin_i (i j : Int) : hMin [.int i, .int j] = some (.sh (.int (if j < i then j else i))) := rfl
@[simp] theorem boolsO_nil : boolsO [] = some [] := rfl
@[simp] theorem boolsO_cons (b : Bool) (xs : List PyData) : boolsO (.bool b :: xs) = (boolsO xs).map (b :: ·) := rfl
@[simp] theorem intsO_nil : intsO [] = some [] := rfl
@[simp] theorem intsO_cons (b : Int) (xs : List PyData) : intsO (.int b :: xs) = (intsO xs).map (b :: ·) := rfl
theorem kB_ii : kitB "int" "int" = some true := by decide +kernel
theorem kB_bi : kitB "bool" "int" = some true := by decide +kernel
theorem kB_ni : kitB "NoneType" "int" = some false := by decide +kernel
theorem kB_si : kitB "str" "int" = some false := by decide +kernel
theorem kB_li : kitB "list" "int" = some false := by decide +kernel
theorem kB_ti : kitB "tuple" "int" = some false := by decide +kernel
theorem kB_ib : kitB "int" "bool" = some false := by decide +kernel
theorem kB_bb : kitB "bool" "bool" = some true := by decide +kernel
theorem kB_nb : kitB "NoneType" "bool" = some false := by decide +kernel
theorem kB_sb : kitB "str" "bool" = some false := by decide +kernel
theorem kB_lb : kitB "list" "bool" = some false := by decide +kernel
theorem kB_tb : kitB "tuple" "bool" = some false := by decide +kernel
theorem kB_it : kitB "int" "tuple" = some false := by decide +kernel
theorem kB_bt : kitB "bool" "tuple" = some false := by decide +kernel
theorem kB_nt : kitB "NoneType" "tuple" = some false := by decide +kernel
theorem kB_st : kitB "str" "tuple" = some false := by decide +kernel
theorem kB_lt : kitB "list" "tuple" = some false := by decide +kernel
theorem kB_tt : kitB "tuple" "tuple" = some true := by decide +kernel
theorem kB_il : kitB "int" "list" = some false := by decide +kernel
theorem kB_bl : kitB "bool" "list" = some false := by decide +kernel
theorem kB_nl : kitB "NoneType" "list" = some false := by decide +kernel
theorem kB_sl : kitB "str" "list" = some false := by decide +kernel
theorem kB_ll : kitB "list" "list" = some true := by decide +kernel
theorem kB_tl : kitB "tuple" "list" = some false := by decide +kernel
theorem kB_is : kitB "int" "str" = some false := by decide +kernel
theorem kB_bs : kitB "bool" "str" = some false := by decide +kernel
theorem kB_ns : kitB "NoneType" "str" = some false := by decide +kernel
theorem kB_ss : kitB "str" "str" = some true := by decide +kernel
theorem kB_ls : kitB "list" "str" = some false := by decide +kernel
theorem kB_ts : kitB "tuple" "str" = some false := by decide +kernel
/-- which kind a datum is of -/
def kInt : PyData → Bool
  | .int _ => true
  | .bool _ => true
  | _ => false
def kBool : PyData → Bool
  | .bool _ => true
  | _ => false
def kTup : PyData → Bool
  | .tuple _ => true
  | _ => false
def kList : PyData → Bool
  | .list _ => true
  | _ => false
def kStr : PyData → Bool
  | .str _ => true
  | _ => false
/-- no dict -/
def noDict : PyData → Bool
  | .dict _ => false
  | _ => true
theorem isi_int {d : PyData} (h : noDict d = true) : hIsi "int" d = some (.bool (kInt d)) := by
  cases d with
  | dict _ => cases h
  | none => exact congrArg (Option.map PyData.bool) kB_ni
  | bool _ => exact congrArg (Option.map PyData.bool) kB_bi
  | int _ => exact congrArg (Option.map PyData.bool) kB_ii
  | str _ => exact congrArg (Option.map PyData.bool) kB_si
  | list _ => exact congrArg (Option.map PyData.bool) kB_li
  | tuple _ => exact congrArg (Option.map PyData.bool) kB_ti
theorem isi_bool {d : PyData} (h : noDict d = true) : hIsi "bool" d = some (.bool (kBool d)) := by
  cases d with
  | dict _ => cases h
  | none => exact congrArg (Option.map PyData.bool) kB_nb
  | bool _ => exact congrArg (Option.map PyData.bool) kB_bb
  | int _ => exact congrArg (Option.map PyData.bool) kB_ib
  | str _ => exact congrArg (Option.map PyData.bool) kB_sb
  | list _ => exact congrArg (Option.map PyData.bool) kB_lb
  | tuple _ => exact congrArg (Option.map PyData.bool) kB_tb
theorem isi_tup {d : PyData} (h : noDict d = true) : hIsi "tuple" d = some (.bool (kTup d)) := by
  cases d with
  | dict _ => cases h
  | none => exact congrArg (Option.map PyData.bool) kB_nt
  | bool _ => exact congrArg (Option.map PyData.bool) kB_bt
  | int _ => exact congrArg (Option.map PyData.bool) kB_it
  | str _ => exact congrArg (Option.map PyData.bool) kB_st
  | list _ => exact congrArg (Option.map PyData.bool) kB_lt
  | tuple _ => exact congrArg (Option.map PyData.bool) kB_tt
theorem isi_list {d : PyData} (h : noDict d = true) : hIsi "list" d = some (.bool (kList d)) := by
  cases d with
  | dict _ => cases h
  | none => exact congrArg (Option.map PyData.bool) kB_nl
  | bool _ => exact congrArg (Option.map PyData.bool) kB_bl
  | int _ => exact congrArg (Option.map PyData.bool) kB_il
  | str _ => exact congrArg (Option.map PyData.bool) kB_sl
  | list _ => exact congrArg (Option.map PyData.bool) kB_ll
  | tuple _ => exact congrArg (Option.map PyData.bool) kB_tl
theorem isi_str {d : PyData} (h : noDict d = true) : hIsi "str" d = some (.bool (kStr d)) := by
  cases d with
  | dict _ => cases h
  | none => exact congrArg (Option.map PyData.bool) kB_ns
  | bool _ => exact congrArg (Option.map PyData.bool) kB_bs
  | int _ => exact congrArg (Option.map PyData.bool) kB_is
  | str _ => exact congrArg (Option.map PyData.bool) kB_ss
  | list _ => exact congrArg (Option.map PyData.bool) kB_ls
  | tuple _ => exact congrArg (Option.map PyData.bool) kB_ts
@[simp] theorem isi_int_i (i : Int) : hIsi "int" (.int i) = some (.bool true) := isi_int rfl
@[simp] theorem isi_bool_i (i : Int) : hIsi "bool" (.int i) = some (.bool false) := isi_bool rfl
@[simp] theorem isi_bool_b (i : Bool) : hIsi "bool" (.bool i) = some (.bool true) := isi_bool rfl
@[simp] theorem isi_tup_t (xs : List PyData) : hIsi "tuple" (.tuple xs) = some (.bool true) := isi_tup rfl
@[simp] theorem isi_list_l (xs : List PyData) : hIsi "list" (.list xs) = some (.bool true) := isi_list rfl
/-! statements -/
@[simp] theorem fNext_eq (ρ : En) : fNext ρ = some (.nx ρ) := rfl
@[simp] theorem fSeq_eq (F F2 : FS) (ρ : En) : fSeq F F2 ρ = (F ρ).bind fun o => match o with
  | .nx ρ1 => F2 ρ1
  | o => some o := rfl
theorem fSeq_nx {F F2 : FS} {ρ ρ1 : En} (h : F ρ = some (.nx ρ1)) : fSeq F F2 ρ = F2 ρ1 := by
  rw [fSeq_eq, h]
  rfl
@[simp] theorem fSet_eq (i : Nat) (f : FR) (ρ : En) : fSet i f ρ = (f ρ).map fun p => .nx (p.2.set i p.1) := rfl
@[simp] theorem fAsg_eq (g : FG) (f : FE) (ρ : En) : fAsg g f ρ = (f ρ).bind fun p => (g p.1 p.2).map .nx := rfl
@[simp] theorem fGive_eq (i : Nat) (ρ : En) : fGive i ρ = match ρ[i]? with
  | some (.un) => none
  | some (.ad _) => none
  | some (.io _) => none
  | some (.lk _) => none
  | some (.lt _) => none
  | some (.pi) => none
  | some (.sh d) => some (.sh d, ρ)
  | some s => some (s, ρ.set i .un)
  | none => none := rfl
@[simp] theorem fRet_eq (f : FR) (ρ : En) : fRet f ρ = (f ρ).map fun p => .rt p.1 p.2 := rfl
@[simp] theorem fIf_eq (c : FT) (F F2 : FS) (ρ : En) : fIf c F F2 ρ = (c ρ).bind fun p => if p.1 = true then F p.2 else F2 p.2 := rfl
@[simp] theorem fDrop_eq (f : FE) (ρ : En) : fDrop f ρ = (f ρ).map fun p => .nx p.2 := rfl
@[simp] theorem fNev_eq (ρ : En) : fNev ρ = none := rfl
@[simp] theorem fAppend_eq (i : Nat) (f : FE) (ρ : En) : fAppend i f ρ = (f ρ).bind fun p => (ownL ρ[i]?).bind fun _ => (ownL p.2[i]?).bind fun xs =>
  if xs.length < 16777216 then some (.nx (p.2.set i (newL p.2[i]? (xs ++ [p.1])))) else none := rfl
@[simp] theorem fExtend_eq (i : Nat) (f : FE) (ρ : En) : fExtend i f ρ = (f ρ).bind fun p => (ownL ρ[i]?).bind fun _ => (ownL p.2[i]?).bind fun xs => match p.1 with
  | .list ys => if xs.length + ys.length ≤ 16777216 then some (.nx (p.2.set i (newL p.2[i]? (xs ++ ys)))) else none
  | _ => none := rfl
@[simp] theorem fPut_eq (i : Nat) (k : FE) (f : FE) (ρ : En) : fPut i k f ρ = (f ρ).bind fun p => (k p.2).bind fun q => (ownL p.2[i]?).bind fun _ => (ownL q.2[i]?).bind fun xs => match q.1 with
  | .int z => (ixN xs.length z).map fun j => .nx (q.2.set i (newL q.2[i]? (xs.set j p.1)))
  | _ => none := rfl
@[simp] theorem gVar_eq (i : Nat) (d : PyData) (ρ : En) : gVar i d ρ = some (ρ.set i (.sh d)) := rfl
@[simp] theorem gNo_nil (ρ : En) : gNo [] ρ = some ρ := rfl
@[simp] theorem gCo_cons (g : FG) (h : FGs) (d : PyData) (ds : List PyData) (ρ : En) : gCo g h (d :: ds) ρ = (g d ρ).bind fun ρ1 => h ds ρ1 := rfl
@[simp] theorem gTu_t (n : Nat) (h : FGs) (ds : List PyData) (ρ : En) : gTu n h (.tuple ds) ρ = if ds.length = n then h ds ρ else none := rfl
@[simp] theorem resO_rt (s : Sl) (ρ : En) : resO (.rt s ρ) = some s := rfl
@[simp] theorem resO_nx (ρ : En) : resO (.nx ρ) = some (.sh .none) := rfl
@[simp] theorem resB_rt (s : Sl) (ρ : En) : resB (.rt s ρ) = bagO ρ s := rfl
@[simp] theorem resB_nx (ρ : En) : resB (.nx ρ) = bagO ρ (.sh .none) := rfl
@[simp] theorem bagO_io (bs : List PyData) (ρ : En) (s : Sl) : bagO (.io bs :: ρ) s = some (s, bs) := rfl
@[simp] theorem fItems_eq (f : FE) (ρ : En) : fItems f ρ = (f ρ).bind fun p => (itemsD p.1).map fun xs => (xs, p.2) := rfl
@[simp] theorem itemsD_l (xs : List PyData) : itemsD (.list xs) = some xs := rfl
@[simp] theorem itemsD_t (xs : List PyData) : itemsD (.tuple xs) = some xs := rfl
@[simp] theorem fRg_eq (h : List PyData → Option (List PyData)) (k : FA) (ρ : En) : fRg h k ρ = (k ρ).bind fun p => (h p.1).map fun xs => (xs, p.2) := rfl
@[simp] theorem zp2_l (xs ys : List PyData) : zp2 [.list xs, .list ys] = some (zipD xs ys) := rfl
@[simp] theorem zp2_t (xs ys : List PyData) : zp2 [.tuple xs, .tuple ys] = some (zipD xs ys) := rfl
@[simp] theorem zipD_nil : zipD [] [] = [] := rfl
@[simp] theorem zipD_cons (x y : PyData) (xs ys : List PyData) : zipD (x :: xs) (y :: ys) = .tuple [x, y] :: zipD xs ys := rfl
@[simp] theorem forL_nil (g : FG) (F : FS) (ρ : En) : forL g F [] ρ = some (.nx ρ) := rfl
@[simp] theorem forL_cons (g : FG) (F : FS) (d : PyData) (ds : List PyData) (ρ : En) : forL g F (d :: ds) ρ = (g d ρ).bind fun ρ1 => (F ρ1).bind fun o => match o with
  | .nx ρ2 => forL g F ds ρ2
  | .ct ρ2 => forL g F ds ρ2
  | .bk ρ2 => some (.nx ρ2)
  | .rt s ρ2 => some (.rt s ρ2) := rfl
@[simp] theorem fFor_eq (it : FI) (g : FG) (F : FS) (ρ : En) : fFor it g F ρ = (it ρ).bind fun p => forL g F p.1 p.2 := rfl
@[simp] theorem fLc_eq (vs : List Nat) (it : FI) (g : FG) (tt : FT) (te : FE) (ρ : En) : fLc vs it g tt te ρ = (it ρ).bind fun p => if p.1.length ≤ 16000000 then (lcL vs g tt te p.1 (wipeE p.2 vs)).map fun r => (.ow r.1, wipeE r.2 vs) else none := rfl
@[simp] theorem lcL_nil (vs : List Nat) (g : FG) (tt : FT) (te : FE) (ρ : En) : lcL vs g tt te [] ρ = some ([], ρ) := rfl
@[simp] theorem lcL_cons (vs : List Nat) (g : FG) (tt : FT) (te : FE) (d : PyData) (ds : List PyData) (ρ : En) : lcL vs g tt te (d :: ds) ρ = (g d ρ).bind fun ρ1 => (tt ρ1).bind fun p => if p.1 = true then (te p.2).bind fun q => (lcL vs g tt te ds (wipeE q.2 vs)).map fun r => (q.1 :: r.1, r.2) else lcL vs g tt te ds (wipeE p.2 vs) := rfl
@[simp] theorem fYes_eq (ρ : En) : fYes ρ = some (true, ρ) := rfl
@[simp] theorem wipeE_nil (ρ : En) : wipeE ρ [] = ρ := rfl
@[simp] theorem wipeE_cons (ρ : En) (v : Nat) (vs : List Nat) : wipeE ρ (v :: vs) = (wipeE ρ vs).set v .un := rfl
@[simp] theorem fNilR_eq (ρ : En) : fNilR ρ = some ([], ρ) := rfl
@[simp] theorem fConsR_eq (f : FR) (g : FAR) (ρ : En) : fConsR f g ρ = (f ρ).bind fun p => (g p.2).map fun q => (p.1 :: q.1, q.2) := rfl
@[simp] theorem fPar2_eq (i j : Nat) (f : FAR) (ρ : En) : fPar2 i j f ρ = (f ρ).bind fun p => match p.1 with
  | [s, t] => some (.nx ((p.2.set i s).set j t))
  | _ => none := rfl
@[simp] theorem fPar3_eq (i j l : Nat) (f : FAR) (ρ : En) : fPar3 i j l f ρ = (f ρ).bind fun p => match p.1 with
  | [s, t, u] => some (.nx (((p.2.set i s).set j t).set l u))
  | _ => none := rfl
theorem rangeD_two : rangeD 0 2 = [.int 0, .int 1] := rfl
@[simp] theorem rg1_2 : rg1 [.int 2] = some [.int 0, .int 1] := rfl
/-- a comprehension without tests whose items are known one by one -/
theorem lcL_map {α : Type} {vs : List Nat} {g : FG} {te : FE} {ρ : En} (toD : α → PyData) (fn : α → PyData) : ∀ xs : List α, (∀ x ∈ xs, ∃ ρ1 ρ2, g (toD x) ρ = some ρ1 ∧ te ρ1 = some (fn x, ρ2) ∧ wipeE ρ2 vs = ρ) → lcL vs g fYes te (xs.map toD) ρ = some (xs.map fn, ρ)
  | [], _ => rfl
  | x :: xs, h => by
    obtain ⟨ρ1, ρ2, h1, h2, h3⟩ := h x List.mem_cons_self
    rw [List.map_cons, lcL_cons, h1, Option.bind_some, fYes_eq, Option.bind_some, if_pos rfl]
    show (te ρ1).bind _ = _
    rw [h2, Option.bind_some, h3, lcL_map toD fn xs fun y hy => h y (List.mem_cons_of_mem _ hy)]
    rfl
/-- a loop whose turns are known one by one -/
theorem forL_fold {α β : Type} {g : FG} {F : FS} (toD : α → PyData) (st : β → En) (step : β → α → β) : ∀ (xs : List α) (b : β), (∀ b x, x ∈ xs → ∃ ρ1, g (toD x) (st b) = some ρ1 ∧ ∃ ρ2, F ρ1 = some (.nx ρ2) ∧ ρ2 = st (step b x)) → forL g F (xs.map toD) (st b) = some (.nx (st (xs.foldl step b)))
  | [], b, _ => rfl
  | x :: xs, b, h => by
    obtain ⟨ρ1, h1, ρ2, h2, h3⟩ := h b x List.mem_cons_self
    rw [List.map_cons, forL_cons, h1, Option.bind_some, h2, Option.bind_some]
    show forL g F (xs.map toD) ρ2 = _
    rw [h3, forL_fold toD st step xs _ fun c y hy => h c y (List.mem_cons_of_mem _ hy)]
    rfl

/-! GLend: an expression whose answer is an atom leaves what it read as it was; equality of data with itself. -/
def shS : Sl → Sl
  | .ow xs => .sh (.list xs)
  | .io xs => .sh (.list xs)
  | .ok _ => .un
  | .ot _ => .un
  | .lk _ => .un
  | .lt _ => .un
  | .pi => .un
  | s => s
def atomD : PyData → Bool
  | .none => true
  | .bool _ => true
  | .int _ => true
  | .str _ => true
  | _ => false
/-- reads lists of the frame's own without giving them away -/
def fLend (f : FE) : FE := fun ρ => (f (ρ.map shS)).bind fun p => if atomD p.1 = true then some (p.1, ρ) else none
theorem atomD_dr {B B' : Hp} {v : V} {d : PyData} (h : atomD d = true) (r : Dr B v d) : Dr B' v d := by
  cases r with
  | non => exact .non
  | bl b => exact .bl b
  | int b => exact .int b
  | str b => exact .str b
  | lst h1 h2 => cases h
  | tup h1 h2 => cases h
theorem EnvOk.whole {Z : Zn} {B : Hp} {σ : L2.St} {H : Hp} {ρ : En} (ok : EnvOk Z B σ H ρ) : EnvOk ⟨fun _ => none, 0, 0⟩ (exT H) σ H (ρ.map shS) := by
  have at' : ∀ (i : Nat) s, (ρ.map shS)[i]? = some s → ∃ t, ρ[i]? = some t ∧ shS t = s := fun i s e => by
    rw [List.getElem?_map] at e
    exact Option.map_eq_some_iff.mp e
  have noown : ∀ (i : Nat) s, (ρ.map shS)[i]? = some s → isOwn s = false := fun i s e => by
    obtain ⟨t, _, h2⟩ := at' i s e
    subst h2
    cases t <;> rfl
  refine ⟨exT_le H, fun a o e => (nomatch e), fun a o e => (nomatch e), by rw [List.length_map]; exact ok.len, fun i d e => ?_, fun i s e1 e2 => ?_, fun i xs e => ?_, fun i v e => ?_, fun i j s t a e1 e2 => ?_, ok.tb.s.okX⟩
  · obtain ⟨t, h1, h2⟩ := at' i _ e
    cases t with
    | sh d' =>
      cases h2
      obtain ⟨v, h3, h4⟩ := ok.sh i d h1
      exact ⟨v, h3, h4.mono ok.leX⟩
    | ow xs =>
      cases h2
      obtain ⟨a, o, q1, q2, q3, q4, q5⟩ := ok.ow i _ h1 rfl
      cases o with
      | lst vs => exact ⟨_, q1, .lst ((exT_of (isT_at q2 trivial)).trans q2) (DrAll.mono q5 ok.leX)⟩
      | _ => exact q5.elim
    | io xs =>
      cases h2
      obtain ⟨a, o, q1, q2, q3, q4, q5⟩ := ok.ow i _ h1 rfl
      cases o with
      | lst vs => exact ⟨_, q1, .lst ((exT_of (isT_at q2 trivial)).trans q2) (DrAll.mono q5 ok.leX)⟩
      | _ => exact q5.elim
    | un => cases h2
    | ad v => cases h2
    | ok m => cases h2
    | ot m => cases h2
    | lk m => cases h2
    | lt m => cases h2
    | pi => cases h2
  · rw [noown i s e1] at e2
    cases e2
  · have := noown i _ e
    cases this
  · obtain ⟨t, h1, h2⟩ := at' i _ e
    cases t with
    | ad w =>
      cases h2
      exact ok.ad i _ h1
    | _ => cases h2; exact trivial
  · rw [noown i s e1] at e2
    cases e2
/-- the heap has grown -/
theorem EnvOk.grow {Z : Zn} {B : Hp} {σ : L2.St} {H H' : Hp} {ρ : En} (ok : EnvOk Z B σ H ρ) (s : Same (exT H) H') (t : TbS H') : EnvOk Z B σ H' ρ :=
  ⟨ok.leX.trans s, ok.lzX.trans s, ok.dj, ok.len, ok.sh, fun i t e1 e2 => by
    obtain ⟨a, o, q1, q2, q3, q4, q5⟩ := ok.ow i t e1 e2
    exact ⟨a, o, q1, exT_get s q2 q5.noTb, q3, q4, q5⟩, ok.io, ok.ad, ok.inj, ok.tb.z, ok.tb.b, t⟩
theorem de_lend {X : Cx} {e : Expr} {f : FE} (h : DE X e f) : DE X e (fLend f) := pe_imp h fun σ H Q ⟨Z, B, ρ, d, ρ', ok, e, q⟩ => by
  unfold fLend at e
  obtain ⟨⟨d1, ρ1⟩, e1, e2⟩ := Option.bind_eq_some_iff.mp e
  split at e2
  · rename_i ha
    cases e2
    refine ⟨_, _, _, d1, ρ1, ok.whole, e1, fun B' H' v s ok' r => ?_⟩
    exact q B H' v (Same.refl B) (ok.grow (s.trans ok'.le) ok'.tb.s) (atomD_dr ha r)
  · cases e2
def fLendT (f : FT) : FT := fun ρ => (f (ρ.map shS)).map fun p => (p.1, ρ)
theorem dt_lend {X : Cx} {e : Expr} {f : FT} (h : DT X e f) : DT X e (fLendT f) := ⟨fun pins s σ H Q I ⟨Z, B, ρ, d, ρ', ok, e, q⟩ => h.run pins s σ H Q I (by
  unfold fLendT at e
  obtain ⟨⟨b, ρ1⟩, e1, e2⟩ := Option.map_eq_some_iff.mp e
  cases e2
  exact ⟨_, _, _, b, ρ1, ok.whole, e1, fun B' H' s ok' => q B H' (Same.refl B) (ok.grow (s.trans ok'.le) ok'.tb.s)⟩)⟩
@[simp] theorem fLendT_eq (f : FT) (ρ : En) : fLendT f ρ = (f (ρ.map shS)).map fun p => (p.1, ρ) := rfl
@[simp] theorem fLend_eq (f : FE) (ρ : En) : fLend f ρ = (f (ρ.map shS)).bind fun p => if atomD p.1 = true then some (p.1, ρ) else none := rfl
@[simp] theorem shS_un : shS .un = .un := rfl
@[simp] theorem shS_ad (v : V) : shS (.ad v) = .ad v := rfl
@[simp] theorem shS_sh (d : PyData) : shS (.sh d) = .sh d := rfl
@[simp] theorem shS_ow (d : List PyData) : shS (.ow d) = .sh (.list d) := rfl
@[simp] theorem shS_io (d : List PyData) : shS (.io d) = .sh (.list d) := rfl
@[simp] theorem atomD_b (b : Bool) : atomD (.bool b) = true := rfl
@[simp] theorem atomD_i (b : Int) : atomD (.int b) = true := rfl

/-- data without dicts, nested no deeper than n -/
def goodD : Nat → PyData → Bool
  | _, .none => true
  | _, .bool _ => true
  | _, .int _ => true
  | n + 1, .list xs => decide (xs.length ≤ 1000000) && xs.all (goodD n)
  | n + 1, .tuple xs => decide (xs.length ≤ 1000000) && xs.all (goodD n)
  | _, _ => false
theorem depthAll_le {n : Nat} : ∀ {xs : List PyData}, (∀ x ∈ xs, x.depth ≤ n) → PyData.depthAll xs ≤ n
  | [], _ => by simp [PyData.depthAll]
  | x :: xs, h => by
    have h1 := depthAll_le (xs := xs) fun y hy => h y (List.mem_cons_of_mem _ hy)
    have h2 := h x List.mem_cons_self
    simp only [PyData.depthAll]
    omega
theorem canLayAll_of : ∀ {xs : List PyData}, (∀ x ∈ xs, x.canLay0 = true) → PyData.canLayAll0 xs = true
  | [], _ => rfl
  | x :: xs, h => by
    simp only [PyData.canLayAll0, h x List.mem_cons_self, canLayAll_of (xs := xs) fun y hy => h y (List.mem_cons_of_mem _ hy), Bool.true_and]
theorem goodD_lay : ∀ (n : Nat) (d : PyData), goodD n d = true → d.canLay0 = true ∧ d.depth ≤ n + 1 := by
  intro n
  induction n with
  | zero =>
    intro d h
    cases d <;> first | exact ⟨rfl, by simp [PyData.depth]⟩ | (simp [goodD] at h)
  | succ n ih =>
    intro d h
    cases d with
    | none => exact ⟨rfl, by simp [PyData.depth]⟩
    | bool b => exact ⟨rfl, by simp [PyData.depth]⟩
    | int b => exact ⟨rfl, by simp [PyData.depth]⟩
    | str b => simp [goodD] at h
    | dict b => simp [goodD] at h
    | list xs =>
      simp only [goodD, Bool.and_eq_true, decide_eq_true_eq, List.all_eq_true] at h
      have h1 : PyData.canLayAll0 xs = true := canLayAll_of fun x hx => (ih x (h.2 x hx)).1
      have h2 : PyData.depthAll xs ≤ n + 1 := depthAll_le fun x hx => (ih x (h.2 x hx)).2
      have h3 := h.1
      refine ⟨?_, ?_⟩
      · simp [PyData.canLay0, h1]
        try omega
      · simp only [PyData.depth]
        omega
    | tuple xs =>
      simp only [goodD, Bool.and_eq_true, decide_eq_true_eq, List.all_eq_true] at h
      have h1 : PyData.canLayAll0 xs = true := canLayAll_of fun x hx => (ih x (h.2 x hx)).1
      have h2 : PyData.depthAll xs ≤ n + 1 := depthAll_le fun x hx => (ih x (h.2 x hx)).2
      have h3 := h.1
      refine ⟨?_, ?_⟩
      · simp [PyData.canLay0, h1]
        try omega
      · simp only [PyData.depth]
        omega
theorem goodD_shaped {d : PyData} (n : Nat) (h : goodD n d = true) (hn : n ≤ 63 := by decide) : SeqAt.shaped d = true := by
  obtain ⟨h1, h2⟩ := goodD_lay n d h
  unfold SeqAt.shaped
  rw [h1, Bool.true_and]
  exact decide_eq_true (by omega)
theorem hEq_self {d : PyData} (n : Nat) (h : goodD n d = true) (hn : n ≤ 63 := by decide) : hEq d d = some (.bool true) := by
  have h1 := goodD_shaped n h hn
  unfold hEq
  rw [if_pos ⟨h1, h1⟩, SeqAt.eqv_refl d (goodD_lay n d h).1]
theorem hNe_self {d : PyData} (n : Nat) (h : goodD n d = true) (hn : n ≤ 63 := by decide) : hNe d d = some (.bool false) := by
  have h1 := goodD_shaped n h hn
  unfold hNe
  rw [if_pos ⟨h1, h1⟩, SeqAt.eqv_refl d (goodD_lay n d h).1]
  rfl

/-! GTop: the law as a whole: what stands ahead of its main loop, the loop, True. -/
theorem sql_grow {K : PySem.W.Frag} {H H' : Hp} {a : Addr} {xs : List V} (s : Same H H') (h : SqL K H a xs) : SqL K H' a xs := by
  rcases h with (h1 | ⟨o, h1⟩) | h1
  · exact Or.inl (Or.inl (s a _ h1))
  · exact Or.inl (Or.inr ⟨o, s a _ h1⟩)
  · exact Or.inr h1
/-- runs to the end of F, then t -/
def tPre (F : FS) (t : TS) : TS := fun D σ H => ∃ Z B ρ ρ1, EnvOk Z B σ H ρ ∧ F ρ = some (.nx ρ1) ∧ ∀ B' σ' H', Same B B' → EnvOk Z B' σ' H' ρ1 → t D σ' H'
theorem pre_done {X : Cx} {rest : List Stmt} {t : TS} (h : PSs X rest t) : PSs X rest (tPre fNext t) := pss_imp h fun D σ H ⟨Z, B, ρ, ρ1, ok, e, q⟩ => by
  cases e
  exact q B σ H (Same.refl B) ok
theorem pre_cons {X : Cx} {st : Stmt} {rest : List Stmt} {F F2 : FS} {t : TS} (h1 : DS X st F) (h2 : PSs X rest (tPre F2 t)) : PSs X (st :: rest) (tPre (fSeq F F2) t) := pss_imp (pss_cons h1 h2) fun D σ H ⟨Z, B, ρ, ρ1, ok, e, q⟩ => by
  unfold fSeq at e
  obtain ⟨o1, e1, e2⟩ := Option.bind_eq_some_iff.mp e
  refine ⟨Z, B, ρ, o1, ok, e1, fun B1 s1 => ?_⟩
  cases o1 with
  | nx ρ2 => exact fun σ1 H1 ok1 => ⟨Z, B1, ρ2, ρ1, ok1, e2, fun B2 σ2 H2 s2 ok2 => q B2 σ2 H2 (s1.trans s2) ok2⟩
  | rt s ρ2 => cases e2
  | bk ρ2 => cases e2
  | ct ρ2 => cases e2
def tLaw (K : PySem.W.Frag) (m : Int) (ib : Nat) (Fp Fm : FS) : TS := tPre Fp (tSeq (tMain K m ib Fm) (tS (fRet (fSh (fC (.bool true))))))
/-- what is asked of the pure law: n slots, m bags, the bag's slot ib -/
def LawOk (n : Nat) (m : Int) (ib : Nat) (Fp Fm : FS) : Prop := ∀ v : V, ∃ ρ1 ρL, Fp (.ad v :: List.replicate (n - 1) .un) = some (.nx ρ1) ∧ Fits ρL ρ1 ∧ (∀ (j : Nat) s, ρL[j]? = some s → isOwn s = false) ∧ ρ1[0]? = some (.ad v) ∧ ρL[ib]? = some .un ∧
  ∀ b, BagOk 100000 b → ∃ ρ', Fm (ρL.set ib (.ow (b.map PyData.int))) = some (.nx ρ') ∧ Fits ρL ρ'
theorem law_reading {K : PySem.W.Frag} {N : List Str} {n : Nat} {m : Int} {ib : Nat} {Fp Fm : FS} (hn : N.length = n) (hn0 : 0 < n) (hm0 : 0 ≤ m) (hm1 : m ≤ 63) (ok : LawOk n m ib Fp Fm) {vs : List V} {H : Hp} {Q : VK} {E : XK} (h : spLaw K vs H Q E) :
    tLaw K m ib Fp Fm { nx := fun _ H' => Q .non H', rt := Q } (L2.start N vs) H := by
  obtain ⟨a, ns, rfl, ht, hS, hl, q⟩ := h
  have hS' : ∀ H', Same (exT H) H' → SqL K H' a (ns.map V.int) := fun H' s => by
    rcases hS with (h1 | ⟨o, h1⟩) | h1
    · exact Or.inl (Or.inl (exT_get s h1 trivial))
    · exact Or.inl (Or.inr ⟨o, exT_get s h1 trivial⟩)
    · exact Or.inr h1
  obtain ⟨ρ1, ρL, e1, hfit, hno, h1, h2, hF⟩ := ok (.ref a)
  have env := env_law (N := N) (H := H) (a := a) (by rw [hn]; exact hn0) ht
  rw [hn] at env
  refine ⟨_, _, _, ρ1, env, e1, fun B1 σ1 H1 s1 ok1 => ?_⟩
  refine ⟨_, B1, ρ1, ρL, a, ns, ok1, hfit, hno, h1, hS', hl, hm0, hm1, hF, h2, fun B2 σ2 H2 s2 ok2 => ?_⟩
  refine ⟨_, B2, ρL, _, ok2, rfl, fun B3 s3 σ3 H3 v ok3 r => ?_⟩
  rcases r with ⟨d, e, r⟩ | ⟨_, o, _, _, _, _, _, h5, _⟩
  · cases e
    cases r
    exact q H3
  · cases o <;> exact h5.elim
def lookPre : Option Out → Option (Nat × Option Sl)
  | some (.nx ρ) => some (ρ.length, ρ[0]?)
  | _ => none
/-- the statements ahead, where they are reckoned by plain running -/
theorem pre_of {F : FS} {m : Nat} {v : V} {ρ : En} (h : lookPre (F ρ) = some (m, some (.ad v))) : ∃ ρ1, F ρ = some (.nx ρ1) ∧ ρ1.length = m ∧ ρ1[0]? = some (.ad v) := by
  unfold lookPre at h
  split at h
  · rename_i ρ1 e
    have h' := Prod.mk.inj (Option.some.inj h)
    exact ⟨ρ1, e, h'.1, h'.2⟩
  · cases h
/-- slots known after the statements ahead: none but the script -/
theorem fits_bare {v : V} {n : Nat} {ρ : En} (hl : ρ.length = n + 1) (h0 : ρ[0]? = some (.ad v)) : Fits (.ad v :: List.replicate n .un) ρ := by
  refine ⟨by rw [List.length_cons, List.length_replicate, hl], fun j s e => ?_⟩
  cases j with
  | zero =>
    cases e
    exact .inr h0
  | succ j => exact .inl (List.eq_of_mem_replicate (List.mem_of_getElem? (show (List.replicate n Sl.un)[j]? = some s from e)))
theorem bare_noown {v : V} {n : Nat} : ∀ (j : Nat) s, (Sl.ad v :: List.replicate n Sl.un)[j]? = some s → isOwn s = false := fun j s e => by
  cases j with
  | zero =>
    cases e
    rfl
  | succ j =>
    rw [List.eq_of_mem_replicate (List.mem_of_getElem? (show (List.replicate n Sl.un)[j]? = some s from e))]
    rfl
/-- where nothing ahead of the loop is used in it -/
theorem lawOk_bare {n : Nat} {m : Int} {ib : Nat} {Fp Fm : FS} (hib : ib - 1 < n) (hib0 : ib ≠ 0) (hp : ∀ v, ∃ ρ1, Fp (.ad v :: List.replicate n .un) = some (.nx ρ1) ∧ ρ1.length = n + 1 ∧ ρ1[0]? = some (.ad v))
    (hm : ∀ v b, BagOk 100000 b → ∃ ρ', Fm ((Sl.ad v :: List.replicate n .un).set ib (.ow (b.map PyData.int))) = some (.nx ρ') ∧ ρ'.length = n + 1 ∧ ρ'[0]? = some (.ad v)) : LawOk (n + 1) m ib Fp Fm := fun v => by
  obtain ⟨ρ1, e1, h1, h2⟩ := hp v
  refine ⟨ρ1, .ad v :: List.replicate n .un, e1, fits_bare h1 h2, bare_noown, h2, ?_, fun b hb => ?_⟩
  · cases ib with
    | zero => exact (hib0 rfl).elim
    | succ j =>
      show (List.replicate n Sl.un)[j]? = some Sl.un
      rw [List.getElem?_replicate, if_pos (by omega)]
  · obtain ⟨ρ', e2, h3, h4⟩ := hm v b hb
    exact ⟨ρ', e2, fits_bare h3 h4⟩

/-! GLc2: comprehensions with two fors. -/
def lcL2 (vs vs1 : List Nat) (g : FG) (tt : FT) (it1 : FI) (g1 : FG) (tt1 : FT) (te : FE) : List PyData → En → Option (List PyData × En)
  | [], ρ => some ([], ρ)
  | d :: ds, ρ => (g d ρ).bind fun ρ1 => (tt ρ1).bind fun p => if p.1 = true then (it1 p.2).bind fun q => (lcL vs1 g1 tt1 te q.1 (wipeE q.2 vs1)).bind fun r => (lcL2 vs vs1 g tt it1 g1 tt1 te ds (wipeE r.2 vs)).map fun t => (r.1 ++ t.1, t.2) else lcL2 vs vs1 g tt it1 g1 tt1 te ds (wipeE p.2 vs)
def fLc2 (vs vs1 : List Nat) (it : FI) (g : FG) (tt : FT) (it1 : FI) (g1 : FG) (tt1 : FT) (te : FE) : FR := fun ρ => (it ρ).bind fun p => (lcL2 vs vs1 g tt it1 g1 tt1 te p.1 (wipeE p.2 vs)).bind fun r => if r.1.length ≤ 16000000 then some (.ow r.1, wipeE r.2 vs) else none
theorem tLc2_of {it it1 : FI} {g g1 : FG} {tt tt1 : FT} {te : FE} {vs js vs1 js1 : List Nat} (hj : ∀ j ∈ js, j ∈ vs) (hj1 : ∀ j ∈ js1, j ∈ vs1) (hv : ∀ j ∈ vs1, j ∈ vs) : ∀ σ H Q, tR (fLc2 vs vs1 it g tt it1 g1 tt1 te) σ H Q → tLc2 (tI it) (tG js g) (tT tt) (tI it1) (tG js1 g1) (tT tt1) (tE te) vs vs1 σ H Q := fun σ H Q ⟨Z, B, ρ, s, ρ', ok, q0, q⟩ => by
  unfold fLc2 at q0
  obtain ⟨⟨ds, ρ1⟩, e1, e2⟩ := Option.bind_eq_some_iff.mp q0
  obtain ⟨⟨ys, ρe⟩, e3, e4⟩ := Option.bind_eq_some_iff.mp e2
  split at e4
  case isFalse => cases e4
  rename_i hlen
  cases e4
  refine ⟨Z, B, ρ, ds, ρ1, ok, e1, fun B1 H1 J s1 ok1 wk D hD => ?_⟩
  have zD : Z.fr D = none := ok1.lz.free hD
  have bD : B1 D = none := ok1.le.free hD
  have start : EnvOk (Z.upd D (.lst [])) B1 (wipe σ vs) (upd H1 D (.lst [])) (wipeE ρ1 vs) := by
    have h1 : EnvOk Z B1 (wipe σ vs) H1 (wipeE ρ1 vs) := ok1.swap (wipe_length σ vs) fun j hj => wipe_out hj
    exact (h1.junk hD).keep upd_same bD (NotOwn.new h1 hD)
  refine ⟨fun i m H2 => m = ds.length - i ∧ i ≤ ds.length ∧ ∃ B2 ρ2 acc accV rest, Same B1 B2 ∧ EnvOk (Z.upd D (.lst accV)) B2 (wipe σ vs) H2 ρ2 ∧ DrAll B2 accV acc ∧ lcL2 vs vs1 g tt it1 g1 tt1 te (ds.drop i) ρ2 = some (rest, ρe) ∧ acc ++ rest = ys,
    ⟨ds.length, by simp, Nat.zero_le _, B1, _, [], [], ys, Same.refl B1, start, .nil, by rw [List.drop_zero]; exact e3, rfl⟩, fun i m H2 hW => ?_⟩
  obtain ⟨rfl, hi, B2, ρ2, acc, accV, rest, s2, ok2, da, hf, hy⟩ := hW
  have hDz : (Z.upd D (.lst accV)).fr D = some (.lst accV) := upd_same
  have sz : ∀ l, Same Z.fr (Z.upd D (.lst l)).fr := fun l => same_upd_new zD
  by_cases h : i < ds.length
  · obtain ⟨d, h1, h2⟩ := drop_at h
    rw [h2] at hf
    obtain ⟨ρ3, e5, e6⟩ := Option.bind_eq_some_iff.mp hf
    obtain ⟨⟨b, ρ4⟩, e7, e8⟩ := Option.bind_eq_some_iff.mp e6
    obtain ⟨go, yl⟩ := (wk _ B2 (wipe σ vs) H2 ρ2 i s2 ok2).2 d h1
    refine .inr ⟨go, fun H' => ∃ B3 ρ3 acc accV rest, Same B1 B3 ∧ EnvOk (Z.upd D (.lst accV)) B3 (wipe σ vs) H' ρ3 ∧ DrAll B3 accV acc ∧ lcL2 vs vs1 g tt it1 g1 tt1 te (ds.drop (i + 1)) ρ3 = some (rest, ρe) ∧ acc ++ rest = ys, fun H' hN => ⟨ds.length - (i + 1), by omega, rfl, h, hN⟩, fun x H' hy' => ?_⟩
    obtain ⟨B3, s3, ok3, dx⟩ := yl x H' hy'
    refine ⟨_, B3, ρ2, d, ρ3, ok3, dx, e5, fun σ3 ok4 hσ => ⟨?_, _, B3, ρ3, b, ρ4, ok4, e7, fun B4 H4 s4 ok5 => ?_⟩⟩
    · rw [← wipe_wipe σ vs]
      exact wipe_eq hσ.len fun j hj' => hσ.out j fun z => hj' (hj j z)
    have back : ∀ {Z' : Zn} {B' H' : Hp} {ρ' : En}, EnvOk Z' B' σ3 H' ρ' → EnvOk Z' B' (wipe σ vs) H' (wipeE ρ' vs) := fun ok' => ok'.swap hσ.len.symm fun j hj' => (hσ.out j fun z => hj' (hj j z)).symm
    cases b with
    | true =>
      rw [if_pos rfl] at e8
      refine iteT ?_
      obtain ⟨⟨ds1, ρ5⟩, e9, e10⟩ := Option.bind_eq_some_iff.mp e8
      obtain ⟨⟨ys1, ρ6⟩, e11, e12⟩ := Option.bind_eq_some_iff.mp e10
      obtain ⟨⟨rest', ρ7⟩, e13, e14⟩ := Option.map_eq_some_iff.mp e12
      cases e14
      refine ⟨_, B4, ρ4, ds1, ρ5, ok5, e9, fun B5 H5 J1 s5 ok6 wk1 => ?_⟩
      have s25 : Same B2 B5 := s3.trans (s4.trans s5)
      refine ⟨fun j k H6 => k = ds1.length - j ∧ j ≤ ds1.length ∧ ∃ B6 ρ6' acc1 accV1 rest1, Same B5 B6 ∧ EnvOk (Z.upd D (.lst accV1)) B6 (wipe σ3 vs1) H6 ρ6' ∧ DrAll B6 accV1 acc1 ∧ lcL vs1 g1 tt1 te (ds1.drop j) ρ6' = some (rest1, ρ6) ∧ acc1 ++ rest1 = acc ++ ys1,
        ⟨ds1.length, by simp, Nat.zero_le _, B5, _, acc, accV, ys1, Same.refl B5, ok6.swap (wipe_length σ3 vs1) fun j hj => wipe_out hj, da.mono s25, by rw [List.drop_zero]; exact e11, rfl⟩, fun j k H6 hW1 => ?_⟩
      obtain ⟨rfl, hi1, B6, ρ8, acc1, accV1, rest1, s6, ok7, da1, hf1, hy1⟩ := hW1
      have hDz1 : (Z.upd D (.lst accV1)).fr D = some (.lst accV1) := upd_same
      by_cases h3 : j < ds1.length
      · obtain ⟨d1, h4, h5⟩ := drop_at h3
        rw [h5] at hf1
        obtain ⟨ρ9, f1, f2⟩ := Option.bind_eq_some_iff.mp hf1
        obtain ⟨⟨b1, ρ10⟩, f3, f4⟩ := Option.bind_eq_some_iff.mp f2
        obtain ⟨go1, yl1⟩ := (wk1 _ B6 (wipe σ3 vs1) H6 ρ8 j s6 ok7).2 d1 h4
        refine .inr ⟨go1, fun H' => ∃ B7 ρ6' acc1 accV1 rest1, Same B5 B7 ∧ EnvOk (Z.upd D (.lst accV1)) B7 (wipe σ3 vs1) H' ρ6' ∧ DrAll B7 accV1 acc1 ∧ lcL vs1 g1 tt1 te (ds1.drop (j + 1)) ρ6' = some (rest1, ρ6) ∧ acc1 ++ rest1 = acc ++ ys1, fun H' hN => ⟨ds1.length - (j + 1), by omega, rfl, h3, hN⟩, fun x1 H7 hy7 => ?_⟩
        obtain ⟨B7, s7, ok8, dx1⟩ := yl1 x1 H7 hy7
        refine ⟨_, B7, ρ8, d1, ρ9, ok8, dx1, f1, fun σ4 ok9 hσ1 => ⟨?_, _, B7, ρ9, b1, ρ10, ok9, f3, fun B8 H8 s8 ok10 => ?_⟩⟩
        · rw [← wipe_wipe σ3 vs1]
          exact wipe_eq hσ1.len fun j hj' => hσ1.out j fun z => hj' (hj1 j z)
        have back1 : ∀ {Z' : Zn} {B' H' : Hp} {ρ' : En}, EnvOk Z' B' σ4 H' ρ' → EnvOk Z' B' (wipe σ3 vs1) H' (wipeE ρ' vs1) := fun ok' => ok'.swap hσ1.len.symm fun j hj' => (hσ1.out j fun z => hj' (hj1 j z)).symm
        cases b1 with
        | true =>
          rw [if_pos rfl] at f4
          refine iteT ?_
          obtain ⟨⟨y, ρ11⟩, f5, f6⟩ := Option.bind_eq_some_iff.mp f4
          obtain ⟨⟨rest2, ρ12⟩, f7, f8⟩ := Option.map_eq_some_iff.mp f6
          cases f8
          refine ⟨_, B8, ρ10, y, ρ11, ok10, f5, fun B9 H9 v s9 ok11 dv => ?_⟩
          have s69 : Same B6 B9 := s7.trans (s8.trans s9)
          have hD9 : H9 D = some (.lst accV1) := ok11.lz _ _ hDz1
          have bD9 : B9 D = none := ok11.dj _ _ hDz1
          have nD9 : NotOwn σ4 ρ11 D := fun j s' f1 f2 f3 => by
            obtain ⟨a, o, g1, g2, g3, g4, _⟩ := ok11.ow j s' f1 f2
            rw [f3] at g1
            have g5 : D = a := V.ref.inj (Option.some.inj (Option.some.inj g1))
            rw [← g5, hDz1] at g4
            cases g4
          have hl : acc1.length < 16000000 := by
            have z1 := congrArg List.length hy1
            have z2 := congrArg List.length hy
            simp only [List.length_append, List.length_cons] at z1 z2
            have z3 : ys.length ≤ 16000000 := hlen
            omega
          refine ⟨accV1, hD9, by rw [da1.length]; exact Nat.lt_trans hl (by decide), B9, _, acc1 ++ [y], accV1 ++ [v], rest2, s6.trans s69, ?_, (da1.mono s69).app (.cons dv .nil), f7, by rw [List.append_assoc]; exact hy1⟩
          exact back1 (((ok11.zle (sz accV1) rfl).other bD9 zD nD9 (fun u z => by rw [hD9] at z; cases z; trivial)).keep upd_same bD9 nD9)
        | false =>
          rw [if_neg Bool.false_ne_true] at f4
          refine iteF ?_
          exact ⟨B8, _, acc1, accV1, rest1, s6.trans (s7.trans s8), back1 ok10, da1.mono (s7.trans s8), f4, hy1⟩
      · have e : j = ds1.length := by omega
        rw [e, List.drop_length] at hf1
        cases hf1
        rw [List.append_nil] at hy1
        refine .inl ⟨(wk1 _ B6 (wipe σ3 vs1) H6 _ j s6 ok7).1 e, B6, _, acc1, accV1, rest', (s2.trans s25).trans s6, ?_, da1, e13, by rw [hy1, List.append_assoc]; exact hy⟩
        refine ok7.swap ?_ fun j hj' => ?_
        · rw [wipe_length σ3 vs1]
          exact hσ.len.symm
        · rw [wipe_out (fun z => hj' (hv j z))]
          exact (hσ.out j fun z => hj' (hj j z)).symm
    | false =>
      rw [if_neg Bool.false_ne_true] at e8
      refine iteF ?_
      exact ⟨B4, _, acc, accV, rest, s2.trans (s3.trans s4), back ok5, da.mono (s3.trans s4), e8, hy⟩
  · have e : i = ds.length := by omega
    rw [e, List.drop_length] at hf
    cases hf
    rw [List.append_nil] at hy
    subst hy
    refine .inl ⟨(wk _ B2 (wipe σ vs) H2 _ i s2 ok2).1 e, ?_⟩
    have hD2 : H2 D = some (.lst accV) := ok2.lz _ _ hDz
    have bD2 : B2 D = none := ok2.dj _ _ hDz
    have ok3 : EnvOk Z B2 σ H2 (wipeE ρe vs) := (ok2.zle (sz accV) rfl).swap (wipe_length σ vs).symm fun j hj' => (wipe_out hj').symm
    have nD : NotOwn σ (wipeE ρe vs) D := fun j s' f1 f2 f3 => by
      rcases wipeE_at f1 with z | ⟨h3, h4⟩
      · subst z
        cases f2
      · obtain ⟨a, o, g1, g2, g3, g4, _⟩ := ok2.ow j s' h4 f2
        rw [wipe_out h3, f3] at g1
        have g5 : D = a := V.ref.inj (Option.some.inj (Option.some.inj g1))
        rw [← g5, hDz] at g4
        cases g4
    exact q B2 H2 _ (s1.trans s2) ok3 (.inr ⟨D, _, rfl, hD2, bD2, zD, nD, da, rfl⟩)
section
variable {X : Cx} {elt tg iter tg1 iter1 : Expr} {ifs ifs1 : List Expr} {scope : Scope} {own : List (Str × Nat)} {pos : Pos} {it it1 : FI} {g g1 : FG} {tt tt1 : FT} {te : FE} {js vs js1 : List Nat}
theorem dr_lc2 (vs1 : List Nat) (hN : X.N.Nodup) (hi : DI X tg iter it) (ok : BlkOk X.N X.env.scope scope own)
    (hg : ∀ (s : Shared) (H : Hp) (C : Addr) (cl : List (Str × Addr)) (fp : List Addr), DG (X.blk s H scope (compEnvC scope cl C X.env) fp) tg js g)
    (ht : ∀ (s : Shared) (H : Hp) (C : Addr) (cl : List (Str × Addr)) (fp : List Addr), DTs (X.blk s H scope (compEnvC scope cl C X.env) fp) ifs tt)
    (hi1 : ∀ (s : Shared) (H : Hp) (C : Addr) (cl : List (Str × Addr)) (fp : List Addr), DI (X.blk s H scope (compEnvC scope cl C X.env) fp) tg1 iter1 it1)
    (hg1 : ∀ (s : Shared) (H : Hp) (C : Addr) (cl : List (Str × Addr)) (fp : List Addr), DG (X.blk s H scope (compEnvC scope cl C X.env) fp) tg1 js1 g1)
    (ht1 : ∀ (s : Shared) (H : Hp) (C : Addr) (cl : List (Str × Addr)) (fp : List Addr), DTs (X.blk s H scope (compEnvC scope cl C X.env) fp) ifs1 tt1)
    (he : ∀ (s : Shared) (H : Hp) (C : Addr) (cl : List (Str × Addr)) (fp : List Addr), DE (X.blk s H scope (compEnvC scope cl C X.env) fp) elt te)
    (hc : X.calm = true := by rfl) (hv : own.map (·.2) = vs := by rfl) (hj : ∀ j ∈ js, j ∈ vs := by decide) (hj1 : ∀ j ∈ js1, j ∈ vs1 := by decide) (hv1 : ∀ j ∈ vs1, j ∈ own.map (·.2) := by decide) (hs : ∀ x, foldedSetIterable iter X.env x = pure x := by intro _; rfl) (hs1 : ∀ env x, foldedSetIterable iter1 env x = pure x := by intro _ _; rfl) :
    DR X (.ListComp elt [⟨tg, iter, ifs, 0⟩, ⟨tg1, iter1, ifs1, 0⟩] scope pos) (fLc2 vs vs1 it g tt it1 g1 tt1 te) := by
  subst hv
  exact pe_imp (pe_lc2 hc hN hi ok hv1 hg ht hi1 hg1 ht1 he hs hs1) (tLc2_of hj hj1 hv1)
theorem ds_setLc2 (i : Nat) (vs1 : List Nat) {y : Str} {py spos : Pos} (hN : X.N.Nodup) (hsw : swapsWith (.ListComp elt [⟨tg, iter, ifs, 0⟩, ⟨tg1, iter1, ifs1, 0⟩] scope pos) (some (.Name y py)) spos.line X.env = pure true) (hi : DI X tg iter it) (ok : BlkOk X.N X.env.scope scope own)
    (hg : ∀ (s : Shared) (H : Hp) (C : Addr) (cl : List (Str × Addr)) (fp : List Addr), DG (X.blk s H scope (compEnvC scope cl C X.env) fp) tg js g)
    (ht : ∀ (s : Shared) (H : Hp) (C : Addr) (cl : List (Str × Addr)) (fp : List Addr), DTs (X.blk s H scope (compEnvC scope cl C X.env) fp) ifs tt)
    (hi1 : ∀ (s : Shared) (H : Hp) (C : Addr) (cl : List (Str × Addr)) (fp : List Addr), DI (X.blk s H scope (compEnvC scope cl C X.env) fp) tg1 iter1 it1)
    (hg1 : ∀ (s : Shared) (H : Hp) (C : Addr) (cl : List (Str × Addr)) (fp : List Addr), DG (X.blk s H scope (compEnvC scope cl C X.env) fp) tg1 js1 g1)
    (ht1 : ∀ (s : Shared) (H : Hp) (C : Addr) (cl : List (Str × Addr)) (fp : List Addr), DTs (X.blk s H scope (compEnvC scope cl C X.env) fp) ifs1 tt1)
    (he : ∀ (s : Shared) (H : Hp) (C : Addr) (cl : List (Str × Addr)) (fp : List Addr), DE (X.blk s H scope (compEnvC scope cl C X.env) fp) elt te)
    (hy : X.N[i]? = some y := by rfl) (hyl : X.env.scope.names.lookup y = some .local := by rfl)
    (hc : X.calm = true := by rfl) (hv : own.map (·.2) = vs := by rfl) (hj : ∀ j ∈ js, j ∈ vs := by decide) (hj1 : ∀ j ∈ js1, j ∈ vs1 := by decide) (hv1 : ∀ j ∈ vs1, j ∈ own.map (·.2) := by decide) (hs : ∀ x, foldedSetIterable iter X.env x = pure x := by intro _; rfl) (hs1 : ∀ env x, foldedSetIterable iter1 env x = pure x := by intro _ _; rfl) :
    DS X (.Assign [.Name y py] (.ListComp elt [⟨tg, iter, ifs, 0⟩, ⟨tg1, iter1, ifs1, 0⟩] scope pos) spos) (fSet i (fLc2 vs vs1 it g tt it1 g1 tt1 te)) := by
  subst hv
  refine ps_imp (ps_setLc2 hc hN hy hyl hsw hi ok hv1 hg ht hi1 hg1 ht1 he hs hs1) fun D σ H ⟨Z, B, ρ, o, ok, e, q⟩ => ?_
  unfold fSet at e
  obtain ⟨⟨s, ρ1⟩, e1, e2⟩ := Option.map_eq_some_iff.mp e
  cases e2
  exact tLc2_of hj hj1 hv1 σ H _ ⟨Z, B, ρ, s, ρ1, ok, e1, fun B1 H1 v s1 ok1 r1 => q B1 s1 _ H1 (ok1.setR i r1)⟩
end
@[simp] theorem fLc2_eq (vs vs1 : List Nat) (it : FI) (g : FG) (tt : FT) (it1 : FI) (g1 : FG) (tt1 : FT) (te : FE) (ρ : En) : fLc2 vs vs1 it g tt it1 g1 tt1 te ρ = (it ρ).bind fun p => (lcL2 vs vs1 g tt it1 g1 tt1 te p.1 (wipeE p.2 vs)).bind fun r => if r.1.length ≤ 16000000 then some (.ow r.1, wipeE r.2 vs) else none := rfl
@[simp] theorem lcL2_nil (vs vs1 : List Nat) (g : FG) (tt : FT) (it1 : FI) (g1 : FG) (tt1 : FT) (te : FE) (ρ : En) : lcL2 vs vs1 g tt it1 g1 tt1 te [] ρ = some ([], ρ) := rfl
theorem lcL2_cons (vs vs1 : List Nat) (g : FG) (tt : FT) (it1 : FI) (g1 : FG) (tt1 : FT) (te : FE) (d : PyData) (ds : List PyData) (ρ : En) : lcL2 vs vs1 g tt it1 g1 tt1 te (d :: ds) ρ = (g d ρ).bind fun ρ1 => (tt ρ1).bind fun p => if p.1 = true then (it1 p.2).bind fun q => (lcL vs1 g1 tt1 te q.1 (wipeE q.2 vs1)).bind fun r => (lcL2 vs vs1 g tt it1 g1 tt1 te ds (wipeE r.2 vs)).map fun t => (r.1 ++ t.1, t.2) else lcL2 vs vs1 g tt it1 g1 tt1 te ds (wipeE p.2 vs) := rfl
/-- two fors without tests whose items are known one by one -/
theorem lcL2_map {α : Type} {vs vs1 : List Nat} {g : FG} {it1 : FI} {g1 : FG} {tt1 : FT} {te : FE} {ρ : En} (toD : α → PyData) (fn : α → List PyData) : ∀ xs : List α, (∀ x ∈ xs, ∃ ρ1 ds ρ2 ρ3, g (toD x) ρ = some ρ1 ∧ it1 ρ1 = some (ds, ρ2) ∧ lcL vs1 g1 tt1 te ds (wipeE ρ2 vs1) = some (fn x, ρ3) ∧ wipeE ρ3 vs = ρ) → lcL2 vs vs1 g fYes it1 g1 tt1 te (xs.map toD) ρ = some (xs.flatMap fn, ρ)
  | [], _ => rfl
  | x :: xs, h => by
    obtain ⟨ρ1, ds, ρ2, ρ3, h1, h2, h3, h4⟩ := h x List.mem_cons_self
    have ih := lcL2_map (vs := vs) (vs1 := vs1) (g := g) (it1 := it1) (g1 := g1) (tt1 := tt1) (te := te) (ρ := ρ) toD fn xs fun y hy => h y (List.mem_cons_of_mem _ hy)
    rw [List.map_cons, lcL2_cons, h1, Option.bind_some, fYes_eq, Option.bind_some, if_pos rfl]
    show (it1 ρ1).bind _ = _
    rw [h2, Option.bind_some]
    show (lcL vs1 g1 tt1 te ds (wipeE ρ2 vs1)).bind _ = _
    rw [h3, Option.bind_some]
    show (lcL2 vs vs1 g fYes it1 g1 tt1 te (xs.map toD) (wipeE ρ3 vs)).map _ = _
    rw [h4, ih]
    rfl

/-! GDict: dicts of the frame's own. -/
/-! ### keys and pure dicts -/
def keyD : PyData → Option Key
  | .int i => some (.inl i)
  | .str x => some (.inr x)
  | _ => none
def keysD : List PyData → Option (List Key)
  | [] => some []
  | d :: ds => (keyD d).bind fun k => (keysD ds).map (k :: ·)
def tkeyD : PyData → Option (List Key)
  | .tuple ds => keysD ds
  | _ => none
section
variable {κ : Type} [DecidableEq κ]
def valD : List (κ × PyData) → κ → Option PyData
  | [], _ => none
  | p :: r, k => if p.1 = k then some p.2 else valD r k
def putD : List (κ × PyData) → κ → PyData → List (κ × PyData)
  | [], k, d => [(k, d)]
  | p :: r, k, d => if p.1 = k then (p.1, d) :: r.map (fun q => if q.1 = k then (q.1, d) else q) else p :: putD r k d
theorem KvR.length {B : Hp} : ∀ {l : List (κ × V)} {m : List (κ × PyData)}, KvR B l m → l.length = m.length
  | _, _, .nil => rfl
  | _, _, .cons _ t => by rw [List.length_cons, List.length_cons, KvR.length t]
theorem KvR.val {B : Hp} (k : κ) : ∀ {l : List (κ × V)} {m : List (κ × PyData)}, KvR B l m → (valV l k = none ∧ valD m k = none) ∨ ∃ v d, valV l k = some v ∧ valD m k = some d ∧ Dr B v d
  | _, _, .nil => .inl ⟨rfl, rfl⟩
  | _, _, .cons (k := k') (v := v) (d := d) (l := l) (m := m) h t => by
    by_cases e : k' = k
    · exact .inr ⟨v, d, valV_pos (p := (k', v)) (r := l) e, by show (if k' = k then some d else valD m k) = _; rw [if_pos e], h⟩
    · rw [valV_neg (p := (k', v)) (r := l) e]
      show (_ ∧ (if k' = k then some d else valD m k) = none) ∨ ∃ v' d', _ ∧ (if k' = k then some d else valD m k) = some d' ∧ _
      rw [if_neg e]
      exact KvR.val k t
theorem KvR.mapd {B : Hp} {v : V} {d : PyData} (hd : Dr B v d) (k : κ) : ∀ {l : List (κ × V)} {m : List (κ × PyData)}, KvR B l m → KvR B (l.map fun q => if q.1 = k then (q.1, v) else q) (m.map fun q => if q.1 = k then (q.1, d) else q)
  | _, _, .nil => .nil
  | _, _, .cons (k := k') h t => by
    rw [List.map_cons, List.map_cons]
    by_cases e : k' = k
    · rw [if_pos e, if_pos e]
      exact .cons hd (KvR.mapd hd k t)
    · rw [if_neg e, if_neg e]
      exact .cons h (KvR.mapd hd k t)
theorem putK_cons_eq {k' k : κ} {w v : V} {l : List (κ × V)} : putK ((k', w) :: l) k v = if k' = k then (k', v) :: l.map (fun q => if q.1 = k then (q.1, v) else q) else (k', w) :: putK l k v := by
  unfold putK
  by_cases e : k' = k
  · simp [e]
  · simp only [List.any_cons, e, decide_false, Bool.false_or, if_false, List.map_cons]
    split <;> rfl
theorem KvR.put {B : Hp} {v : V} {d : PyData} (hd : Dr B v d) (k : κ) : ∀ {l : List (κ × V)} {m : List (κ × PyData)}, KvR B l m → KvR B (putK l k v) (putD m k d)
  | _, _, .nil => .cons hd .nil
  | _, _, .cons (k := k') (v := w) (d := e) (l := l) (m := m) h t => by
    rw [putK_cons_eq]
    show KvR B _ (if k' = k then (k', d) :: m.map (fun q => if q.1 = k then (q.1, d) else q) else (k', e) :: putD m k d)
    by_cases q : k' = k
    · rw [if_pos q, if_pos q]
      exact .cons hd (KvR.mapd hd k t)
    · rw [if_neg q, if_neg q]
      exact .cons h (KvR.put hd k t)
end
theorem dr_key {B : Hp} {v : V} {d : PyData} {k : Key} (h : Dr B v d) (e : keyD d = some k) : v = kV k := by
  cases h <;> cases e <;> rfl
theorem drAll_keys {B : Hp} : ∀ {vs : List V} {ds : List PyData} {ks : List Key}, DrAll B vs ds → keysD ds = some ks → vs = ks.map kV
  | _, _, _, .nil, e => by cases e; rfl
  | _, _, _, .cons h t, e => by
    obtain ⟨k, e1, e2⟩ := Option.bind_eq_some_iff.mp e
    obtain ⟨ks, e3, e4⟩ := Option.map_eq_some_iff.mp e2
    subst e4
    rw [dr_key h e1, drAll_keys t e3]
    rfl
theorem dr_tkey {B : Hp} {v : V} {d : PyData} {ks : List Key} (h : Dr B v d) (e : tkeyD d = some ks) : ∃ b, v = .ref b ∧ B b = some (.tup (ks.map kV)) := by
  cases h with
  | tup h1 h2 =>
    have := drAll_keys h2 e
    subst this
    exact ⟨_, rfl, h1⟩
  | _ => cases e
/-! ### a slot's dict -/
/-- what the dict in a slot holds at a key -/
def getS : Option Sl → PyData → Option (Option PyData)
  | some (.ok m), d => (keyD d).map (valD m)
  | some (.lk m), d => (keyD d).map (valD m)
  | some (.ot m), d => (tkeyD d).map (valD m)
  | some (.lt m), d => (tkeyD d).map (valD m)
  | _, _ => none
/-- the slot behind a store -/
def putS : Option Sl → PyData → PyData → Option Sl
  | some (.ok m), k, d => (keyD k).bind fun k => if m.length < 16777216 then some (.ok (putD m k d)) else none
  | some (.ot m), k, d => (tkeyD k).bind fun k => if m.length < 16777216 then some (.ot (putD m k d)) else none
  | _, _, _ => none
def isD : Option Sl → Bool
  | some (.ok _) => true
  | some (.lk _) => true
  | some (.ot _) => true
  | some (.lt _) => true
  | _ => false
def OptR (B : Hp) (o : Option V) (r : Option PyData) : Prop := (o = none ∧ r = none) ∨ ∃ v d, o = some v ∧ r = some d ∧ Dr B v d
theorem KvR.opt {κ : Type} [DecidableEq κ] {B : Hp} {l : List (κ × V)} {m : List (κ × PyData)} (h : KvR B l m) (k : κ) : OptR B (valV l k) (valD m k) := h.val k
section
variable {Z : Zn} {B : Hp} {σ : L2.St} {H : Hp} {ρ : En} {i : Nat}
theorem getS_isD {s : Option Sl} {d : PyData} {r : Option PyData} (h : getS s d = some r) : isD s = true := by
  cases s with
  | none => cases h
  | some s => cases s <;> first | rfl | cases h
theorem putS_own {k d : PyData} {r : Sl} (h : putS ρ[i]? k d = some r) : ∃ s, ρ[i]? = some s ∧ isOwn s = true := by
  cases e : ρ[i]? with
  | none =>
    rw [e] at h
    cases h
  | some s =>
    rw [e] at h
    cases s <;> first | exact ⟨_, rfl, rfl⟩ | cases h
theorem isD_at' (ok : EnvOk Z B σ H ρ) (h : isD ρ[i]? = true) : ∃ a, σ[i]? = some (some (.ref a)) ∧ IsD H a := by
  cases e : ρ[i]? with
  | none =>
    rw [e] at h
    cases h
  | some s =>
    rw [e] at h
    cases s with
    | ok m =>
      obtain ⟨a, o, q1, q2, q3, q4, q5⟩ := ok.ow i _ e rfl
      cases o <;> first | exact q5.elim | exact ⟨a, q1, .inl ⟨_, .inl q2⟩⟩
    | ot m =>
      obtain ⟨a, o, q1, q2, q3, q4, q5⟩ := ok.ow i _ e rfl
      cases o <;> first | exact q5.elim | exact ⟨a, q1, .inr ⟨_, .inl q2⟩⟩
    | lk m =>
      obtain ⟨a, d, l, q1, q2, _⟩ := ok.ad i _ e
      exact ⟨a, q1, .inl ⟨_, .inr ⟨_, ok.le _ _ q2⟩⟩⟩
    | lt m =>
      obtain ⟨a, d, l, q1, q2, _⟩ := ok.ad i _ e
      exact ⟨a, q1, .inr ⟨_, .inr ⟨_, ok.le _ _ q2⟩⟩⟩
    | _ => cases h
theorem get_at (ok : EnvOk Z B σ H ρ) {v : V} {d : PyData} {r : Option PyData} (dv : Dr B v d) (h : getS ρ[i]? d = some r) : ∃ a o, σ[i]? = some (some (.ref a)) ∧ DGet H a v o ∧ OptR B o r := by
  cases e : ρ[i]? with
  | none =>
    rw [e] at h
    cases h
  | some s =>
    rw [e] at h
    cases s with
    | ok m =>
      obtain ⟨a, o, q1, q2, q3, q4, q5⟩ := ok.ow i _ e rfl
      obtain ⟨k, e1, e2⟩ := Option.map_eq_some_iff.mp h
      subst e2
      cases o with
      | dK l =>
        rw [dr_key dv e1]
        exact ⟨a, _, q1, DGet.k q2, KvR.opt q5 k⟩
      | _ => exact q5.elim
    | lk m =>
      obtain ⟨a, od, l, q1, q2, q6⟩ := ok.ad i _ e
      obtain ⟨k, e1, e2⟩ := Option.map_eq_some_iff.mp h
      subst e2
      rw [dr_key dv e1]
      exact ⟨a, _, q1, .inl ⟨l, k, .inr ⟨_, ok.le _ _ q2⟩, rfl, rfl⟩, KvR.opt q6 k⟩
    | ot m =>
      obtain ⟨a, o, q1, q2, q3, q4, q5⟩ := ok.ow i _ e rfl
      obtain ⟨k, e1, e2⟩ := Option.map_eq_some_iff.mp h
      subst e2
      cases o with
      | dT l =>
        obtain ⟨b, rfl, hb⟩ := dr_tkey dv e1
        exact ⟨a, _, q1, DGet.t q2 (ok.le _ _ hb), KvR.opt q5 k⟩
      | _ => exact q5.elim
    | lt m =>
      obtain ⟨a, od, l, q1, q2, q6⟩ := ok.ad i _ e
      obtain ⟨k, e1, e2⟩ := Option.map_eq_some_iff.mp h
      subst e2
      obtain ⟨b, rfl, hb⟩ := dr_tkey dv e1
      exact ⟨a, _, q1, .inr ⟨l, k, b, .inr ⟨_, ok.le _ _ q2⟩, rfl, ok.le _ _ hb, rfl⟩, KvR.opt q6 k⟩
    | _ => cases h
theorem put_at (ok : EnvOk Z B σ H ρ) {v y : V} {d k : PyData} {r : Sl} (dk : Dr B y k) (dv : Dr B v d) (h : putS ρ[i]? k d = some r) : ∃ a H', σ[i]? = some (some (.ref a)) ∧ DPut H a y v H' ∧ EnvOk Z B σ H' (ρ.set i r) := by
  obtain ⟨s, h1, h2⟩ := putS_own h
  obtain ⟨a, o, q1, q2, q3, q4, q5⟩ := ok.ow i s h1 h2
  rw [h1] at h
  cases s with
  | ok m =>
    obtain ⟨k', e1, e2⟩ := Option.bind_eq_some_iff.mp h
    split at e2
    · rename_i hl
      cases e2
      cases o with
      | dK l =>
        rw [dr_key dk e1]
        exact ⟨a, _, q1, DPut.k q2 (by rw [KvR.length q5]; exact hl), ok.mut h1 h2 q1 (s' := .ok _) (o' := .dK _) (KvR.put dv k' q5)⟩
      | _ => exact q5.elim
    · cases e2
  | ot m =>
    obtain ⟨k', e1, e2⟩ := Option.bind_eq_some_iff.mp h
    split at e2
    · rename_i hl
      cases e2
      cases o with
      | dT l =>
        obtain ⟨b, rfl, hb⟩ := dr_tkey dk e1
        exact ⟨a, _, q1, DPut.t q2 (ok.le _ _ hb) (by rw [KvR.length q5]; exact hl), ok.mut h1 h2 q1 (s' := .ot _) (o' := .dT _) (KvR.put dv k' q5)⟩
      | _ => exact q5.elim
    · cases e2
  | _ => cases h
end
/-! ### rules -/
def fDGet (i : Nat) (g : FE) : FE := fun ρ => (g ρ).bind fun p => if isD ρ[i]? = true then (getS p.2[i]? p.1).bind fun r => r.map fun d => (d, p.2) else none
def fDIn (i : Nat) (g : FE) : FE := fun ρ => (g ρ).bind fun p => (getS p.2[i]? p.1).map fun r => (.bool r.isSome, p.2)
def fDNotIn (i : Nat) (g : FE) : FE := fun ρ => (g ρ).bind fun p => (getS p.2[i]? p.1).map fun r => (.bool (!r.isSome), p.2)
def fDGet2 (i : Nat) (g h : FE) : FE := fun ρ => if isD ρ[i]? = true then (g ρ).bind fun p => (h p.2).bind fun q => (getS q.2[i]? p.1).map fun r => (r.getD q.1, q.2) else none
def fDPut (i : Nat) (k e : FE) : FS := fun ρ => (e ρ).bind fun p => if isD p.2[i]? = true then (k p.2).bind fun q => (putS q.2[i]? q.1 p.1).map fun s => .nx (q.2.set i s) else none
def fDNewK : FR := fun ρ => some (.ok [], ρ)
def fDNewT : FR := fun ρ => some (.ot [], ρ)
theorem ref_same {σ : L2.St} {i : Nat} {a b : Addr} (h : σ[i]? = some (some (V.ref a))) (h' : σ[i]? = some (some (V.ref b))) : a = b := by
  rw [h] at h'
  exact V.ref.inj (Option.some.inj (Option.some.inj h'))
theorem isSome_opt {B : Hp} {o : Option V} {r : Option PyData} (h : OptR B o r) : o.isSome = r.isSome := by
  rcases h with ⟨rfl, rfl⟩ | ⟨v, d, rfl, rfl, _⟩ <;> rfl
section
variable {X : Cx} {k : Nat} {e b : Expr} {f g : FE} {pos px apos cpos : Pos} {x : Str}
theorem u1 (hr : Room k X.A) : X.A.units + 1 < cLine := by have := hr.un; omega
theorem de_dget (i : Nat) (hr : Room k X.A) (hb : DE X b g) (hN : X.N[i]? = some x := by rfl) (hv : Vis X.env.scope x := by first | exact Or.inl rfl | exact Or.inr (Or.inl rfl) | exact Or.inr (Or.inr rfl)) (hd : (x == ("__debug__" : Str)) = false := by decide)
    (hcd : (x == ("__classdict__" : Str)) = false := by decide) (hs : NoSl b := by exact fun _ _ => rfl) : DE X (.Subscript (.Name x px) b pos) (fDGet i g) := pe_imp (pe_dget (u1 hr) (pe_var hN hv hd hcd) hb hs) fun σ H Q ⟨Z, B, ρ, d, ρ', ok, e, q⟩ => by
  unfold fDGet at e
  obtain ⟨⟨d1, ρ1⟩, e1, e2⟩ := Option.bind_eq_some_iff.mp e
  split at e2
  · rename_i h0
    obtain ⟨r, e3, e4⟩ := Option.bind_eq_some_iff.mp e2
    obtain ⟨z, e5, e6⟩ := Option.map_eq_some_iff.mp e4
    cases e6
    subst e5
    obtain ⟨a0, g1, _⟩ := isD_at' ok h0
    refine ⟨.ref a0, g1, Z, B, ρ, d1, _, ok, e1, fun B1 H1 y s1 ok1 dy => ?_⟩
    obtain ⟨a, o, k1, k2, k3⟩ := get_at ok1 dy e3
    have := ref_same g1 k1
    subst this
    rcases k3 with ⟨_, z⟩ | ⟨v, d', rfl, z, dv⟩
    · cases z
    · cases z
      exact ⟨a0, v, rfl, k2, q B1 H1 v s1 ok1 dv⟩
  · cases e2
theorem de_din (i : Nat) (hr : Room k X.A) (hb : DE X b g) (hN : X.N[i]? = some x := by rfl) (hv : Vis X.env.scope x := by first | exact Or.inl rfl | exact Or.inr (Or.inl rfl) | exact Or.inr (Or.inr rfl)) (hd : (x == ("__debug__" : Str)) = false := by decide)
    (hcd : (x == ("__classdict__" : Str)) = false := by decide) (hm : behindInMarks .In (.Name x px) = false := by with_unfolding_all rfl) : DE X (.Compare b [.In] [.Name x px] pos) (fDIn i g) := pe_imp (pe_cmp (pc_din (u1 hr) hb (pe_var hN hv hd hcd)) hm) fun σ H Q ⟨Z, B, ρ, d, ρ', ok, e, q⟩ => by
  unfold fDIn at e
  obtain ⟨⟨d1, ρ1⟩, e1, e2⟩ := Option.bind_eq_some_iff.mp e
  obtain ⟨r, e3, e4⟩ := Option.map_eq_some_iff.mp e2
  cases e4
  refine ⟨Z, B, ρ, d1, ρ1, ok, e1, fun B1 H1 y s1 ok1 dy => ?_⟩
  obtain ⟨a, o, k1, k2, k3⟩ := get_at ok1 dy e3
  refine ⟨.ref a, k1, a, o, rfl, k2, ?_⟩
  rw [isSome_opt k3]
  exact q B1 H1 _ s1 ok1 (.bl _)
theorem de_dnotin (i : Nat) (hr : Room k X.A) (hb : DE X b g) (hN : X.N[i]? = some x := by rfl) (hv : Vis X.env.scope x := by first | exact Or.inl rfl | exact Or.inr (Or.inl rfl) | exact Or.inr (Or.inr rfl)) (hd : (x == ("__debug__" : Str)) = false := by decide)
    (hcd : (x == ("__classdict__" : Str)) = false := by decide) (hm : behindInMarks .NotIn (.Name x px) = false := by with_unfolding_all rfl) : DE X (.Compare b [.NotIn] [.Name x px] pos) (fDNotIn i g) := pe_imp (pe_cmp (pc_dnotin (u1 hr) hb (pe_var hN hv hd hcd)) hm) fun σ H Q ⟨Z, B, ρ, d, ρ', ok, e, q⟩ => by
  unfold fDNotIn at e
  obtain ⟨⟨d1, ρ1⟩, e1, e2⟩ := Option.bind_eq_some_iff.mp e
  obtain ⟨r, e3, e4⟩ := Option.map_eq_some_iff.mp e2
  cases e4
  refine ⟨Z, B, ρ, d1, ρ1, ok, e1, fun B1 H1 y s1 ok1 dy => ?_⟩
  obtain ⟨a, o, k1, k2, k3⟩ := get_at ok1 dy e3
  refine ⟨.ref a, k1, a, o, rfl, k2, ?_⟩
  rw [isSome_opt k3]
  exact q B1 H1 _ s1 ok1 (.bl _)
theorem dt_din (i : Nat) (hr : Room k X.A) (hb : DE X b g) (hN : X.N[i]? = some x := by rfl) (hv : Vis X.env.scope x := by first | exact Or.inl rfl | exact Or.inr (Or.inl rfl) | exact Or.inr (Or.inr rfl)) (hd : (x == ("__debug__" : Str)) = false := by decide)
    (hcd : (x == ("__classdict__" : Str)) = false := by decide) (hm : behindInMarks .In (.Name x px) = false := by with_unfolding_all rfl) : DT X (.Compare b [.In] [.Name x px] pos) (fB (fDIn i g)) := pt_imp (pt_cmp (pc_din (u1 hr) hb (pe_var hN hv hd hcd)) hm) fun σ H Q ⟨Z, B, ρ, d, ρ', ok, e, q⟩ => by
  unfold fB fDIn at e
  obtain ⟨⟨z, ρ3⟩, e0, e9⟩ := Option.bind_eq_some_iff.mp e
  obtain ⟨⟨d1, ρ1⟩, e1, e2⟩ := Option.bind_eq_some_iff.mp e0
  obtain ⟨r, e3, e4⟩ := Option.map_eq_some_iff.mp e2
  cases e4
  cases e9
  refine ⟨Z, B, ρ, d1, ρ1, ok, e1, fun B1 H1 y s1 ok1 dy => ?_⟩
  obtain ⟨a, o, k1, k2, k3⟩ := get_at ok1 dy e3
  refine ⟨.ref a, k1, a, o, rfl, k2, _, rfl, ?_⟩
  rw [isSome_opt k3]
  exact q B1 H1 s1 ok1
theorem dt_dnotin (i : Nat) (hr : Room k X.A) (hb : DE X b g) (hN : X.N[i]? = some x := by rfl) (hv : Vis X.env.scope x := by first | exact Or.inl rfl | exact Or.inr (Or.inl rfl) | exact Or.inr (Or.inr rfl)) (hd : (x == ("__debug__" : Str)) = false := by decide)
    (hcd : (x == ("__classdict__" : Str)) = false := by decide) (hm : behindInMarks .NotIn (.Name x px) = false := by with_unfolding_all rfl) : DT X (.Compare b [.NotIn] [.Name x px] pos) (fB (fDNotIn i g)) := pt_imp (pt_cmp (pc_dnotin (u1 hr) hb (pe_var hN hv hd hcd)) hm) fun σ H Q ⟨Z, B, ρ, d, ρ', ok, e, q⟩ => by
  unfold fB fDNotIn at e
  obtain ⟨⟨z, ρ3⟩, e0, e9⟩ := Option.bind_eq_some_iff.mp e
  obtain ⟨⟨d1, ρ1⟩, e1, e2⟩ := Option.bind_eq_some_iff.mp e0
  obtain ⟨r, e3, e4⟩ := Option.map_eq_some_iff.mp e2
  cases e4
  cases e9
  refine ⟨Z, B, ρ, d1, ρ1, ok, e1, fun B1 H1 y s1 ok1 dy => ?_⟩
  obtain ⟨a, o, k1, k2, k3⟩ := get_at ok1 dy e3
  refine ⟨.ref a, k1, a, o, rfl, k2, _, rfl, ?_⟩
  rw [isSome_opt k3]
  exact q B1 H1 s1 ok1
theorem de_dget2 (i : Nat) (hr : Room k X.A) (hb : DE X b g) (he : DE X e f) (m : M2 X (.Name x px) "get" apos b e cpos) (hN : X.N[i]? = some x := by rfl) (hv : Vis X.env.scope x := by first | exact Or.inl rfl | exact Or.inr (Or.inl rfl) | exact Or.inr (Or.inr rfl)) (hd : (x == ("__debug__" : Str)) = false := by decide)
    (hcd : (x == ("__classdict__" : Str)) = false := by decide) : DE X (.Call (.Attribute (.Name x px) "get" apos) [b, e] [] cpos) (fDGet2 i g f) := pe_imp (pe_dget2 (u1 hr) (pe_var hN hv hd hcd) hb he m) fun σ H Q ⟨Z, B, ρ, d, ρ', ok, e, q⟩ => by
  unfold fDGet2 at e
  split at e
  · rename_i h0
    obtain ⟨⟨d1, ρ1⟩, e1, e2⟩ := Option.bind_eq_some_iff.mp e
    obtain ⟨⟨d2, ρ2⟩, e3, e4⟩ := Option.bind_eq_some_iff.mp e2
    obtain ⟨r, e5, e6⟩ := Option.map_eq_some_iff.mp e4
    cases e6
    obtain ⟨a0, g1, g2⟩ := isD_at' ok h0
    refine ⟨.ref a0, g1, a0, rfl, g2, Z, B, ρ, d1, ρ1, ok, e1, fun B1 H1 y s1 ok1 dy => ⟨Z, B1, ρ1, d2, ρ2, ok1, e3, fun B2 H2 w s2 ok2 dw => ?_⟩⟩
    obtain ⟨a, o, k1, k2, k3⟩ := get_at ok2 (dy.mono s2) e5
    have := ref_same g1 k1
    subst this
    refine ⟨o, k2, ?_⟩
    rcases k3 with ⟨rfl, rfl⟩ | ⟨v, d', rfl, rfl, dv⟩
    · exact q B2 H2 _ (s1.trans s2) ok2 dw
    · exact q B2 H2 _ (s1.trans s2) ok2 dv
  · cases e
theorem ds_dput (i : Nat) {spos : Pos} (hr : Room k X.A) (hb : DE X b g) (he : DE X e f) (hN : X.N[i]? = some x := by rfl) (hv : Vis X.env.scope x := by first | exact Or.inl rfl | exact Or.inr (Or.inl rfl) | exact Or.inr (Or.inr rfl)) (hd : (x == ("__debug__" : Str)) = false := by decide)
    (hcd : (x == ("__classdict__" : Str)) = false := by decide) (hs : swapsWith e (some (.Subscript (.Name x px) b spos)) pos.line X.env = pure false := by rfl) : DS X (.Assign [.Subscript (.Name x px) b spos] e pos) (fDPut i g f) := ps_imp (ps_dput (u1 hr) (pe_var hN hv hd hcd) hb he hs) fun D σ H ⟨Z, B, ρ, o, ok, e, q⟩ => by
  unfold fDPut at e
  obtain ⟨⟨d1, ρ1⟩, e1, e2⟩ := Option.bind_eq_some_iff.mp e
  split at e2
  · rename_i h0
    obtain ⟨⟨d2, ρ2⟩, e3, e4⟩ := Option.bind_eq_some_iff.mp e2
    obtain ⟨r, e5, e6⟩ := Option.map_eq_some_iff.mp e4
    cases e6
    refine ⟨Z, B, ρ, d1, ρ1, ok, e1, fun B1 H1 v s1 ok1 dv => ?_⟩
    obtain ⟨a0, g1, g2⟩ := isD_at' ok1 h0
    refine ⟨.ref a0, g1, Z, B1, ρ1, d2, ρ2, ok1, e3, fun B2 H2 y s2 ok2 dy => ?_⟩
    obtain ⟨a, H', k1, k2, k3⟩ := put_at ok2 dy (dv.mono s2) e5
    have := ref_same g1 k1
    subst this
    exact ⟨a0, H', rfl, k2, q B2 (s1.trans s2) σ H' k3⟩
  · cases e2
theorem own_dk {Z : Zn} {B : Hp} {σ : L2.St} {H : Hp} {ρ : En} {p : Addr} (ok : EnvOk Z B σ H ρ) (hp : H p = none) {l : List (Key × V)} {m : List (Key × PyData)} (r : KvR B l m) : EnvOk Z B σ (upd H p (.dK l)) ρ ∧ RepR Z B (upd H p (.dK l)) (NotOwn σ ρ) (.ref p) (.ok m) :=
  ⟨ok.junk hp, .inr ⟨p, .dK l, rfl, upd_same, ok.le.free hp, ok.lz.free hp, NotOwn.new ok hp, r, rfl⟩⟩
theorem dr_dnewK : DR X (.Dict [] [] pos) fDNewK := pe_imp pe_dnewK fun σ H Q ⟨Z, B, ρ, s, ρ', ok, e, q⟩ => by
  cases e
  intro p hp
  obtain ⟨ok4, r4⟩ := own_dk ok hp (l := []) (m := []) .nil
  exact q B _ _ (Same.refl B) ok4 r4
theorem dr_dnewT : DR X (.Dict [] [] pos) fDNewT := pe_imp pe_dnewT fun σ H Q ⟨Z, B, ρ, s, ρ', ok, e, q⟩ => by
  cases e
  intro p hp
  exact q B _ _ (Same.refl B) (ok.junk hp) (.inr ⟨p, .dT [], rfl, upd_same, ok.le.free hp, ok.lz.free hp, NotOwn.new ok hp, .nil, rfl⟩)
end

/-! GTupR: lists pinned while a loop reads them; defs that tell a fresh list and a datum. -/
def nopi (ρ : En) : Bool := ρ.all fun s => match s with
  | .pi => false
  | _ => true
theorem nopi_at {ρ : En} {i : Nat} (h : nopi ρ = true) : ρ[i]? ≠ some .pi := fun e => by
  have := List.all_eq_true.mp h _ (List.mem_of_getElem? e)
  cases this
section
variable {Z : Zn} {B : Hp} {σ : L2.St} {H : Hp} {ρ : En} {i : Nat}
theorem EnvOk.setAd (ok : EnvOk Z B σ H ρ) (i : Nat) {s : Sl} (hs : isOwn s = false) (h1 : ∀ d, s ≠ .sh d) (h2 : ∀ xs, s ≠ .io xs) (ha : AdR B Z.pin σ[i]? s) : EnvOk Z B σ H (ρ.set i s) := by
  have f := ok.forget i
  refine ⟨f.le, f.lz, f.dj, by rw [List.length_set]; exact ok.len, fun j d e => ?_, fun j t e1 e2 => ?_, fun j xs e => ?_, fun j t e => ?_, fun j k t u a e1 e2 e3 e4 e5 e6 => ?_, ok.tb⟩
  · rcases getElem?_set_cases e with ⟨rfl, z2, z3⟩ | ⟨z1, z2⟩
    · exact (h1 d z2.symm).elim
    · exact ok.sh j d z2
  · rcases getElem?_set_cases e1 with ⟨rfl, z2, z3⟩ | ⟨z1, z2⟩
    · rw [z2, hs] at e2
      cases e2
    · exact ok.ow j t z2 e2
  · rcases getElem?_set_cases e with ⟨rfl, z2, z3⟩ | ⟨z1, z2⟩
    · exact (h2 xs z2.symm).elim
    · exact ok.io j xs z2
  · rcases getElem?_set_cases e with ⟨rfl, z2, z3⟩ | ⟨z1, z2⟩
    · rw [z2]
      exact ha
    · exact ok.ad j t z2
  · rcases getElem?_set_cases e1 with ⟨rfl, z2, z3⟩ | ⟨z1, z2⟩
    · rw [z2, hs] at e2
      cases e2
    · rcases getElem?_set_cases e3 with ⟨rfl, y2, y3⟩ | ⟨y1, y2⟩
      · rw [y2, hs] at e4
        cases e4
      · exact ok.inj j k t u a z2 e2 y2 e4 e5 e6
theorem EnvOk.repin (ok : EnvOk Z B σ H ρ) (h : nopi ρ = true) (p : Addr) : EnvOk ⟨Z.fr, Z.bag, p⟩ B σ H ρ := by
  refine ⟨ok.le, ok.lz, ok.dj, ok.len, ok.sh, ok.ow, ok.io, fun j s e => ?_, ok.inj, ok.tb⟩
  have := ok.ad j s e
  cases s with
  | pi => exact (nopi_at h e).elim
  | _ => exact this
theorem nopi_set {s : Sl} (h : nopi ρ = true) (hs : s ≠ .pi) : nopi (ρ.set i s) = true := by
  refine List.all_eq_true.mpr fun x hx => ?_
  rcases List.mem_or_eq_of_mem_set hx with h1 | h1
  · exact List.all_eq_true.mp h x h1
  · subst h1
    cases x <;> first | rfl | exact (hs rfl).elim
theorem EnvOk.pinL (ok : EnvOk Z B σ H ρ) {xs : List PyData} (h : ρ[i]? = some (.ow xs)) (np : nopi ρ = true) : ∃ a vs, σ[i]? = some (some (.ref a)) ∧ H a = some (.lst vs) ∧ Z.fr a = none ∧ DrAll B vs xs ∧ EnvOk ⟨upd Z.fr a (.lst vs), Z.bag, a⟩ B σ H (ρ.set i .pi) := by
  obtain ⟨a, o, q1, q2, q3, q4, q5⟩ := ok.ow i _ h rfl
  cases o with
  | lst vs =>
    refine ⟨a, vs, q1, q2, q4, q5, ?_⟩
    have f1 := (ok.forget i).repin (nopi_set np (fun z => nomatch z)) a
    have hn : NotOwn σ (ρ.set i .un) a := fun j s e1 e2 e3 => by
      rcases getElem?_set_cases e1 with ⟨rfl, z2, z3⟩ | ⟨z1, z2⟩
      · subst z2
        cases e2
      · exact z1 (ok.inj j i s _ a z2 e2 h rfl e3 q1)
    have f2 := f1.keep q2 q3 hn
    have f3 := EnvOk.setAd f2 i (s := .pi) rfl (fun d z => nomatch z) (fun d z => nomatch z) q1
    rw [List.set_set] at f3
    exact f3
  | _ => exact q5.elim
theorem EnvOk.unpinL {a : Addr} {vs : List V} {xs : List PyData} (ok : EnvOk ⟨upd Z.fr a (.lst vs), Z.bag, a⟩ B σ H ρ) (hz : Z.fr a = none) (h : ρ[i]? = some .pi) (np : nopi (ρ.set i .un) = true) (hd : DrAll B vs xs) : EnvOk Z B σ H (ρ.set i (.ow xs)) := by
  have hza : (upd Z.fr a (HO.lst vs)) a = some (.lst vs) := upd_same
  have q1 : σ[i]? = some (some (.ref a)) := ok.ad i _ h
  have f1 := (ok.forget i).repin np Z.pin
  have f2 : EnvOk Z B σ H (ρ.set i .un) := f1.zle (same_upd_new hz) rfl
  have hn : NotOwn σ (ρ.set i .un) a := fun j s e1 e2 e3 => by
    rcases getElem?_set_cases e1 with ⟨rfl, z2, z3⟩ | ⟨z1, z2⟩
    · subst z2
      cases e2
    · obtain ⟨b, o, g1, g2, g3, g4, _⟩ := ok.ow j s z2 e2
      have := ref_same e3 g1
      subst this
      have g5 : (upd Z.fr a (HO.lst vs)) a = none := g4
      rw [hza] at g5
      cases g5
  have f3 := f2.setOw i (a := a) (s := .ow xs) (ok.lz _ _ hza) (ok.dj _ _ hza) hz hn hd (fun z => nomatch z)
  rw [set_self q1, List.set_set] at f3
  exact f3
end
def fForZ (i : Nat) (f : FE) (g : FG) (F : FS) : FS := fun ρ => match ρ[i]? with
  | some (.ow xs) => if nopi ρ = true then (f (ρ.set i .pi)).bind fun p => match p.1 with
    | .list ys => (forL g F (zipD xs ys) p.2).bind fun o => match o with
      | .nx ρ' => match ρ'[i]? with
        | some .pi => if nopi (ρ'.set i .un) = true then some (.nx (ρ'.set i (.ow xs))) else none
        | _ => none
      | _ => none
    | _ => none
    else none
  | _ => none
section
variable {X : Cx} {elts : List Expr} {kk : Nat} {tpos px p pos fpos : Pos} {e : Expr} {f : FE} {js : List Nat} {g : FG} {body : List Stmt} {F : FS} {x : Str}
theorem ds_forZ (i : Nat) (hm : X.mg "zip" = none) (he : DE X e f) (hg' : DG X (.Tuple elts kk tpos) js g) (hb : DSs X body F) (hN : X.N[i]? = some x := by rfl) (hv : Vis X.env.scope x := by first | exact Or.inl rfl | exact Or.inr (Or.inl rfl) | exact Or.inr (Or.inr rfl)) (hd : (x == ("__debug__" : Str)) = false := by decide)
    (hcd : (x == ("__classdict__" : Str)) = false := by decide) (hg : Gl X "zip" := by rfl) (hs : starEach [.Name x px, e] X.env = (false, eval (.Name x px) X.env) :: starEach [e] X.env := by rfl) (hs2 : starEach [e] X.env = (false, eval e X.env) :: starEach [] X.env := by rfl) (hpl : (backTo pos (starEach [e] X.env)).any (·.1) = false := by rfl)
    (hc : X.calm = true := by rfl) (hp : PassesOwn (model X.prog X.w) X.A X.env X.xe := by exact PassesOwn.never) (hf : ∀ y, foldedSetIterable (.Call (.Name "zip" p) [.Name x px, e] [] pos) X.env y = pure y := by intro _; rfl) :
    DS X (.For (.Tuple elts kk tpos) (.Call (.Name "zip" p) [.Name x px, e] [] pos) body [] fpos) (fForZ i f g F) := ps_imp (ps_for hp hc (RZ.pi_zipA hg hm (pa_cons (pe_var hN hv hd hcd) (pa_cons he pa_nil hs2) hs) hs hpl) hg' hb hf) fun D σ H ⟨Z, B, ρ, o, ok, q0, q⟩ => by
  unfold fForZ at q0
  split at q0
  · rename_i xs h
    split at q0
    · rename_i np
      obtain ⟨⟨d, ρ1⟩, e1, e2⟩ := Option.bind_eq_some_iff.mp q0
      split at e2
      · rename_i ys hys
        replace hys : d = .list ys := hys
        subst hys
        obtain ⟨o1, e3, e4⟩ := Option.bind_eq_some_iff.mp e2
        split at e4
        · rename_i ρ'
          split at e4
          · rename_i hpi
            split at e4
            · rename_i np2
              cases e4
              obtain ⟨a, vs, q1, q2, q3, q4, ok1⟩ := ok.pinL h np
              refine ⟨.ref a, q1, _, B, _, _, ρ1, ok1, e1, fun B1 H1 w s1 ok2 dw => ?_⟩
              cases dw with
              | lst h3 h4 =>
                rename_i b ws
                have za : (upd Z.fr a (HO.lst vs)) a = some (.lst vs) := upd_same
                have hda : DrAll B1 vs xs := q4.mono s1
                refine ⟨a, b, vs, ws, rfl, .inl ⟨SqL.of (ok2.lz _ _ za), SqL.of (ok2.le _ _ h3), ?_⟩⟩
                refine ⟨fun k m σ2 H2 => m = (zipD xs ys).length - k ∧ k ≤ (zipD xs ys).length ∧ ∃ B2 ρ2, Same B1 B2 ∧ EnvOk ⟨upd Z.fr a (.lst vs), Z.bag, a⟩ B2 σ2 H2 ρ2 ∧ forL g F ((zipD xs ys).drop k) ρ2 = some (.nx ρ'), ⟨(zipD xs ys).length, by simp, Nat.zero_le _, B1, ρ1, Same.refl B1, ok2, by rw [List.drop_zero]; exact e3⟩, fun k m σ2 H2 hW => ?_⟩
                obtain ⟨rfl, hk, B2, ρ2, s2, ok3, hfl⟩ := hW
                have hqa : SqL X.K H2 a vs := SqL.of (ok3.lz _ _ za)
                have hqb : SqL X.K H2 b ws := SqL.of (ok3.le _ _ (s2 _ _ h3))
                by_cases hlt : k < (zipD xs ys).length
                · obtain ⟨d, h5, h6⟩ := drop_at hlt
                  rw [h6] at hfl
                  obtain ⟨ρ3, f1, f2⟩ := Option.bind_eq_some_iff.mp hfl
                  obtain ⟨o3, f3, f4⟩ := Option.bind_eq_some_iff.mp f2
                  obtain ⟨u, y, z1, z2, rfl⟩ := zip_at h5
                  obtain ⟨v', z3, z4⟩ := hda.get z1
                  obtain ⟨w', z5, z6⟩ := h4.get z2
                  refine .inr ⟨⟨vs, ws, v', w', hqa, hqb, z3, z5⟩, fun σ' H' => ∃ B4 ρ4, Same B1 B4 ∧ EnvOk ⟨upd Z.fr a (.lst vs), Z.bag, a⟩ B4 σ' H' ρ4 ∧ forL g F ((zipD xs ys).drop (k + 1)) ρ4 = some (.nx ρ'), fun σ' H' hN' => ⟨(zipD xs ys).length - (k + 1), by omega, rfl, hlt, hN'⟩, fun r H' ⟨T, v2, w2, y1, y2, y3, y4, y5⟩ => ?_⟩
                  have y6 := y4 vs hqa
                  have y7 := y5 ws hqb
                  rw [z3] at y6
                  rw [z5] at y7
                  cases y6
                  cases y7
                  subst y1 y3
                  obtain ⟨B3, s3, ok4, dx⟩ := pair_new ok3 y2 (z4.mono s2) (z6.mono s2)
                  refine ⟨_, B3, ρ2, _, ρ3, ok4, dx, f1, fun σ3 ok5 _ => ⟨_, B3, ρ3, o3, ok5, f3, fun B4 s4 => ?_⟩⟩
                  cases o3 with
                  | nx ρ4 => exact fun σ5 H5 ok6 => ⟨B4, ρ4, s2.trans (s3.trans s4), ok6, f4⟩
                  | ct ρ4 => exact fun σ5 H5 ok6 => ⟨B4, ρ4, s2.trans (s3.trans s4), ok6, f4⟩
                  | bk ρ4 =>
                    cases f4
                    exact fun σ5 H5 ok6 => q B4 (s1.trans (s2.trans (s3.trans s4))) σ5 H5 (ok6.unpinL q3 hpi np2 (hda.mono (s2.trans (s3.trans s4))))
                  | rt s ρ4 => cases f4
                · have e : k = (zipD xs ys).length := by omega
                  rw [e, List.drop_length] at hfl
                  cases hfl
                  refine .inl ⟨⟨vs, ws, hqa, hqb, zip_stop hda.length h4.length e⟩, ?_⟩
                  exact q B2 (s1.trans s2) σ2 H2 (ok3.unpinL q3 hpi np2 (hda.mono s2))
            · cases e4
          · cases e4
        · cases e4
      · cases e2
    · cases q0
  · cases q0
end

/-! ### defs that tell a fresh list and a datum -/
abbrev FP2 := En → Option ((List PyData × PyData) × En)
def tP2 (f : FP2) : TE := fun σ H Q => ∃ Z B ρ p ρ', EnvOk Z B σ H ρ ∧ f ρ = some (p, ρ') ∧ ∀ B' H' t a vs v, Same B B' → EnvOk Z B' σ H' ρ' → H' t = some (.tup [.ref a, v]) → H' a = some (.lst vs) → B' a = none → Z.fr a = none → NotOwn σ ρ' a → DrAll B' vs p.1 → Dr B' v p.2 → Q (.ref t) H'
def spT (n : Nat) (F : List PyData → Option (List PyData × PyData)) : Sp := fun vs H Q _ => ∃ (Z : Zn) (B : Hp) (ds : List PyData) (p : List PyData × PyData), Same B H ∧ Same Z.fr H ∧ (∀ a o, Z.fr a = some o → B a = none) ∧ TbOk Z.fr B H ∧ DrAll B vs ds ∧ ds.length = n ∧ F ds = some p ∧
  ∀ B' H' t a ws v, Same B B' → Same B' H' → Same Z.fr H' → (∀ a o, Z.fr a = some o → B' a = none) → TbOk Z.fr B' H' → H' t = some (.tup [.ref a, v]) → H' a = some (.lst ws) → B' a = none → Z.fr a = none → DrAll B' ws p.1 → Dr B' v p.2 → Q (.ref t) H'
structure CalT (P : Program) (w : World) (K : PySem.W.Frag) (mg : Str → Option Value) (base : Heap) (k : Nat) (x : Str) (n : Nat) (F : List PyData → Option (List PyData × PyData)) : Prop where
  ex : ∃ f fd ps, FnOk P w K mg base CX0 k f fd ps (spT n F) ∧ mg x = some (.ref f) ∧ PySem.W.keepIn K (.ref f) = true ∧ Binds K fd ps []
/-- the body: statements, then the list in slot i told together with e -/
def runT (n : Nat) (F : FS) (i : Nat) (f : FE) : List PyData → Option (List PyData × PyData) := fun ds => (F (startE n ds)).bind fun o => match o with
  | .nx ρ => (f ρ).bind fun p => match p.2[i]? with
    | some (.ow xs) => some (xs, p.1)
    | _ => none
  | _ => none
def tRetT (f : FE) (i : Nat) : TS := fun D σ H => ∃ Z B ρ d ρ' xs, EnvOk Z B σ H ρ ∧ f ρ = some (d, ρ') ∧ ρ'[i]? = some (.ow xs) ∧ (∃ ys, ρ[i]? = some (.ow ys)) ∧ ∀ B' H' t a ws v, Same B B' → Same B' H' → Same Z.fr H' → (∀ a o, Z.fr a = some o → B' a = none) → TbOk Z.fr B' H' → H' t = some (.tup [.ref a, v]) → H' a = some (.lst ws) → B' a = none → Z.fr a = none → DrAll B' ws xs → Dr B' v d → D.rt (.ref t) H'
section
variable {X : Cx} {px tpos pos : Pos} {kk : Nat} {e : Expr} {f : FE} {x : Str}
theorem pss_retT (i : Nat) (he : DE X e f) (hN : X.N[i]? = some x := by rfl) (hv : Vis X.env.scope x := by first | exact Or.inl rfl | exact Or.inr (Or.inl rfl) | exact Or.inr (Or.inr rfl)) (hd : (x == ("__debug__" : Str)) = false := by decide)
    (hcd : (x == ("__classdict__" : Str)) = false := by decide) (hs : starEach [.Name x px, e] X.env = (false, eval (.Name x px) X.env) :: starEach [e] X.env := by rfl) (hs2 : starEach [e] X.env = (false, eval e X.env) :: starEach [] X.env := by rfl) :
    PSs X [.Return (some (.Tuple [.Name x px, e] kk tpos)) pos] (tRetT f i) := pss_imp (pss_one (ps_ret (pe_tup (pa_cons (pe_var hN hv hd hcd) (pa_cons he pa_nil hs2) hs)))) fun D σ H ⟨Z, B, ρ, d, ρ', xs, ok, e1, e2, ⟨ys, e3⟩, q⟩ => by
  obtain ⟨a0, _, g1, _⟩ := ok.ow i _ e3 rfl
  refine ⟨.ref a0, g1, Z, B, ρ, d, ρ', ok, e1, fun B1 H1 v s1 ok1 dv => ?_⟩
  obtain ⟨a, o, q1, q2, q3, q4, q5⟩ := ok1.ow i _ e2 rfl
  have := ref_same g1 q1
  subst this
  cases o with
  | lst vs =>
    refine ⟨Nat.le_trans (show 2 ≤ 2 from Nat.le_refl 2) (by decide), fun t ht => ?_⟩
    have na : a0 ≠ t := ne_of_none q2 ht
    have ok2 := ok1.junk (o := .tup [.ref a0, v]) ht
    exact q B1 _ t a0 vs v s1 ok2.le ok2.lz ok2.dj ok2.tb upd_same (by rw [upd_ne na]; exact q2) q3 q4 q5 dv
  | _ => exact q5.elim
end
section
variable {P : Program} {w : World} {K : PySem.W.Frag} {mg : Str → Option Value} {base : Heap}
theorem calT_of {x : Str} {st : Stmt} {N ps : List Str} {k i : Nat} {F : FS} {f : FE} (D : DefAt K mg x st) (S : FnScope N ps (defScope st)) (hl : ps.length ≤ N.length)
    (h : ∀ (kV doc pm : Value) (an : Option Addr) (cdv ct : Value) (us : List Value), us.length = ps.length → bindArgs (PySem.W.fnOf x x (defArgs st) (defBody st) (defScope st) .none kV doc pm an cdv ct) ⟨us, []⟩ = pure (ps.zip us))
    (hi : ∀ ρ d ρ' xs, f ρ = some (d, ρ') → ρ'[i]? = some (.ow xs) → ∃ ys, ρ[i]? = some (.ow ys))
    (hb : ∀ (f' : Addr) (cdv : Value) (A : Around) (outer : List Env) (s : Shared) (H : Hp) (E : XK), Room k (A.deeper (envOfC x (defScope st) s.heap.objs.size f' cdv)) → PSs (cxOf CX0 P w K mg base N x (defScope st) f' cdv A outer s H E).nox (defBody st) (tPre F (tRetT f i))) :
    CalT P w K mg base (k + 1) x ps.length (runT N.length F i f) := by
  obtain ⟨g, fd, D, gm⟩ := D.ex
  refine ⟨g, fd, ps, ?_, gm, D.kp, D.bindsN h⟩
  refine D.ok S (fun vs H Q E h => ?_) (fun cdv A outer s H vs Q E hr h => ?_)
  · obtain ⟨Z, B, ds, p, _, _, _, _, h4, h5, _⟩ := h
    rw [h4.length, h5]
  · obtain ⟨Z, B, ds, p, h1, h2, h3, ht, h4, h5, h6, q⟩ := h
    refine ⟨_, PSs.nox (hb g cdv A outer s H E hr), ?_⟩
    unfold runT at h6
    obtain ⟨o, e1, e2⟩ := Option.bind_eq_some_iff.mp h6
    cases o with
    | nx ρ1 =>
      obtain ⟨⟨d, ρ2⟩, e3, e4⟩ := Option.bind_eq_some_iff.mp e2
      split at e4
      · rename_i xs e5
        cases e4
        refine ⟨Z, B, _, ρ1, env_start h1 h2 h3 ht h4 (by rw [h5]; exact hl), e1, fun B1 σ1 H1 s1 ok1 => ?_⟩
        exact ⟨Z, B1, ρ1, d, ρ2, xs, ok1, e3, e5, hi _ _ _ _ e3 e5, fun B' H' t a ws v s2 s3 s4 s5 st z1 z2 z3 z4 z5 z6 => q B' H' t a ws v (s1.trans s2) s3 s4 s5 st z1 z2 z3 z4 z5 z6⟩
      · cases e4
    | rt s ρ => cases e2
    | bk ρ => cases e2
    | ct ρ => cases e2
end
def fCallT (n : Nat) (F : List PyData → Option (List PyData × PyData)) (k : FA) : FP2 := fun ρ => (k ρ).bind fun p => if p.1.length = n then (F p.1).map fun s => (s, p.2) else none
def fUnT (i j : Nat) (f : FP2) : FS := fun ρ => (f ρ).map fun p => .nx ((p.2.set i (.ow p.1.1)).set j (.sh p.1.2))
section
variable {X : Cx} {j k n : Nat} {x : Str} {p pos : Pos} {e : Expr} {es : List Expr} {fa : FA}
theorem dt_fn {F : List PyData → Option (List PyData × PyData)} (C : CalT X.prog X.w X.K X.mg X.base j x n F) (hr : Room k X.A) (ha : DA X (e :: es) fa) (hk : j ≤ k := by decide)
    (hg : Gl X x := by rfl) (hdb : (x == ("__debug__" : Str)) = false := by decide) (he : starEach (e :: es) X.env = (false, eval e X.env) :: starEach es X.env := by rfl) (hpl : (backTo pos (starEach es X.env)).any (·.1) = false := by rfl) :
    PE X (.Call (.Name x p) (e :: es) [] pos) (tP2 (fCallT n F fa)) := by
  obtain ⟨f, fd, ps, D, hm, hkp, hb⟩ := C.ex
  refine pe_imp (pe_call D (hr.mono hk) hg hm hkp hb .nil pass0 ha hdb he hpl) fun σ H Q ⟨Z, B, ρ, s, ρ', ok, q0, q⟩ => ?_
  unfold fCallT at q0
  obtain ⟨⟨ds, ρ1⟩, e1, e2⟩ := Option.bind_eq_some_iff.mp q0
  split at e2
  · rename_i hlen
    obtain ⟨s', e3, e4⟩ := Option.map_eq_some_iff.mp e2
    cases e4
    refine ⟨Z, B, ρ, ds, _, ok, e1, fun B1 H1 vs s1 ok1 dv => ?_⟩
    show spT n F (vs ++ []) H1 Q E0
    rw [List.append_nil]
    refine ⟨restZ H1 B1 Z.bag (fun _ => false), B1, ds, s, ok1.le, fun a o h => (restZ_at h).2.2, fun a o h => (restZ_at h).1, restZ_tb ok1.tb, dv, hlen, e3, fun B' H' t a ws v s2 s3 s4 s5 st z1 z2 z3 z4 z5 z6 => ?_⟩
    have hH : exT H1 a = none := by
      cases ec : exT H1 a with
      | none => rfl
      | some u =>
        rw [restZ_of (s2.free z3) rfl ec] at z4
        cases z4
    exact q B' H' t a ws v (s1.trans s2) (ok1.after s2 s3 s4 s5 st (fun _ _ _ => rfl) fun _ _ _ _ _ _ => rfl) z1 z2 z3 (ok1.lzX.free hH) (NotOwn.newX ok1 hH) z5 z6
  · cases e2
end
section
variable {X : Cx} {e : Expr} {f : FP2} {pos px py pt : Pos} {kt : Nat} {x y : Str}
theorem ds_unT (i j : Nat) (hN : X.N.Nodup) (he : PE X e (tP2 f)) (hi : X.N[i]? = some x := by rfl) (hj : X.N[j]? = some y := by rfl) (hx : Loc X.env.scope x := by first | exact Or.inl rfl | exact Or.inr rfl) (hy : Loc X.env.scope y := by first | exact Or.inl rfl | exact Or.inr rfl)
    (hfx : X.fn x = true ∨ X.env.scope.names.lookup x = some .local := by first | exact .inl rfl | exact .inr rfl) (hfy : X.fn y = true ∨ X.env.scope.names.lookup y = some .local := by first | exact .inl rfl | exact .inr rfl) (hc : X.calm = true := by rfl)
    (hs : swapsWithSole [.Tuple [.Name x px, .Name y py] kt pt] e pos.line X.env = pure false := by rfl) (hw : swappedStores [.Tuple [.Name x px, .Name y py] kt pt] e X.env = pure none := by rfl)
    (h1 : (assignEach [.Tuple [.Name x px, .Name y py] kt pt] X.env).map (·.2) = [assign (.Tuple [.Name x px, .Name y py] kt pt) X.env] := by rfl) : DS X (.Assign [.Tuple [.Name x px, .Name y py] kt pt] e pos) (fUnT i j f) :=
  ps_imp (ps_asg he (pg_tup hc (pgs_cons (pg_name hN hi hx hfx) (pgs_cons (pg_name hN hj hy hfy) pgs_nil))) hs hw h1) fun D σ H ⟨Z, B, ρ, o, ok, e, q⟩ => by
  unfold fUnT at e
  obtain ⟨⟨⟨xs, d⟩, ρ1⟩, e1, e2⟩ := Option.map_eq_some_iff.mp e
  cases e2
  refine ⟨Z, B, ρ, (xs, d), ρ1, ok, e1, fun B1 H1 t a vs v s1 ok1 z1 z2 z3 z4 z5 z6 z7 => ?_⟩
  refine ⟨t, _, rfl, SqT.of z1, rfl, _, _, rfl, _, _, rfl, rfl, ?_⟩
  have ok2 := ok1.setOw i (a := a) (o := .lst vs) (s := .ow xs) z2 z3 z4 z5 z6 (fun z => nomatch z)
  have ok3 := ok2.setSh j z7
  exact q B1 s1 _ H1 ok3
end
theorem lend_same {f : FE} {ρ ρ' : En} {d : PyData} (h : fLend f ρ = some (d, ρ')) : ρ = ρ' := by
  unfold fLend at h
  obtain ⟨p, _, h2⟩ := Option.bind_eq_some_iff.mp h
  split at h2
  · cases h2
    rfl
  · cases h2
/-! pure equations -/
@[simp] theorem keyD_i (i : Int) : keyD (.int i) = some (.inl i) := rfl
@[simp] theorem fDGet_eq (i : Nat) (g : FE) (ρ : En) : fDGet i g ρ = (g ρ).bind fun p => if isD ρ[i]? = true then (getS p.2[i]? p.1).bind fun r => r.map fun d => (d, p.2) else none := rfl
@[simp] theorem fDIn_eq (i : Nat) (g : FE) (ρ : En) : fDIn i g ρ = (g ρ).bind fun p => (getS p.2[i]? p.1).map fun r => (.bool r.isSome, p.2) := rfl
@[simp] theorem fDNotIn_eq (i : Nat) (g : FE) (ρ : En) : fDNotIn i g ρ = (g ρ).bind fun p => (getS p.2[i]? p.1).map fun r => (.bool (!r.isSome), p.2) := rfl
@[simp] theorem fDGet2_eq (i : Nat) (g h : FE) (ρ : En) : fDGet2 i g h ρ = if isD ρ[i]? = true then (g ρ).bind fun p => (h p.2).bind fun q => (getS q.2[i]? p.1).map fun r => (r.getD q.1, q.2) else none := rfl
@[simp] theorem fDPut_eq (i : Nat) (k e : FE) (ρ : En) : fDPut i k e ρ = (e ρ).bind fun p => if isD p.2[i]? = true then (k p.2).bind fun q => (putS q.2[i]? q.1 p.1).map fun s => .nx (q.2.set i s) else none := rfl
@[simp] theorem fDNewK_eq (ρ : En) : fDNewK ρ = some (.ok [], ρ) := rfl
@[simp] theorem isD_ok (m : List (Key × PyData)) : isD (some (.ok m)) = true := rfl
@[simp] theorem isD_lk (m : List (Key × PyData)) : isD (some (.lk m)) = true := rfl
@[simp] theorem isD_ot (m : List (List Key × PyData)) : isD (some (.ot m)) = true := rfl
@[simp] theorem getS_ok (m : List (Key × PyData)) (d : PyData) : getS (some (.ok m)) d = (keyD d).map (valD m) := rfl
@[simp] theorem getS_lk (m : List (Key × PyData)) (d : PyData) : getS (some (.lk m)) d = (keyD d).map (valD m) := rfl
@[simp] theorem getS_ot (m : List (List Key × PyData)) (d : PyData) : getS (some (.ot m)) d = (tkeyD d).map (valD m) := rfl
@[simp] theorem putS_ok (m : List (Key × PyData)) (k d : PyData) : putS (some (.ok m)) k d = (keyD k).bind fun k => if m.length < 16777216 then some (.ok (putD m k d)) else none := rfl
@[simp] theorem putS_ot (m : List (List Key × PyData)) (k d : PyData) : putS (some (.ot m)) k d = (tkeyD k).bind fun k => if m.length < 16777216 then some (.ot (putD m k d)) else none := rfl
@[simp] theorem fUnT_eq (i j : Nat) (f : FP2) (ρ : En) : fUnT i j f ρ = (f ρ).map fun p => .nx ((p.2.set i (.ow p.1.1)).set j (.sh p.1.2)) := rfl
@[simp] theorem fCallT_eq (n : Nat) (F : List PyData → Option (List PyData × PyData)) (k : FA) (ρ : En) : fCallT n F k ρ = (k ρ).bind fun p => if p.1.length = n then (F p.1).map fun s => (s, p.2) else none := rfl

/-! GWh: while, a dict shown with one tuple key. -/
def whL (c : FT) (F : FS) : Nat → FS
  | 0, _ => none
  | n + 1, ρ => (c ρ).bind fun p => if p.1 = true then (F p.2).bind fun o => match o with
    | .nx ρ2 => whL c F n ρ2
    | .ct ρ2 => whL c F n ρ2
    | .bk ρ2 => some (.nx ρ2)
    | .rt s ρ2 => some (.rt s ρ2)
    else some (.nx p.2)
theorem ds_while {X : Cx} {c : Expr} {body : List Stmt} {u : FT} {F : FS} {pos : Pos} (n : Nat) (hc : DT X c u) (hb : DSs X body F) (hp : PassesOwn (model X.prog X.w) X.A X.env X.xe := by exact PassesOwn.never) : DS X (.While c body [] pos) (whL u F n) :=
  ps_imp (ps_while hp hc hb) fun D σ H ⟨Z, B, ρ, o, ok, q0, q⟩ => by
  refine ⟨fun m σ2 H2 => ∃ B2 ρ2, Same B B2 ∧ EnvOk Z B2 σ2 H2 ρ2 ∧ whL u F m ρ2 = some o, ⟨n, B, ρ, Same.refl B, ok, q0⟩, fun m σ2 H2 hW => ?_⟩
  obtain ⟨B2, ρ2, s2, ok2, hf⟩ := hW
  cases m with
  | zero => cases hf
  | succ m =>
    obtain ⟨⟨b, ρ3⟩, e1, e2⟩ := Option.bind_eq_some_iff.mp hf
    refine ⟨Z, B2, ρ2, b, ρ3, ok2, e1, fun B3 H3 s3 ok3 => ?_⟩
    cases b with
    | false =>
      rw [if_neg Bool.false_ne_true] at e2
      rw [if_neg Bool.false_ne_true]
      cases e2
      exact q B3 (s2.trans s3) σ2 H3 ok3
    | true =>
      rw [if_pos rfl] at e2
      rw [if_pos rfl]
      obtain ⟨o3, e3, e4⟩ := Option.bind_eq_some_iff.mp e2
      refine ⟨fun σ' H' => ∃ B4 ρ4, Same B B4 ∧ EnvOk Z B4 σ' H' ρ4 ∧ whL u F m ρ4 = some o, fun σ' H' hN => ⟨m, Nat.lt_succ_self m, hN⟩, Z, B3, ρ3, o3, ok3, e3, fun B4 s4 => ?_⟩
      cases o3 with
      | nx ρ4 => exact fun σ5 H5 ok5 => ⟨B4, ρ4, s2.trans (s3.trans s4), ok5, e4⟩
      | ct ρ4 => exact fun σ5 H5 ok5 => ⟨B4, ρ4, s2.trans (s3.trans s4), ok5, e4⟩
      | bk ρ4 =>
        cases e4
        exact q B4 (s2.trans (s3.trans s4))
      | rt s ρ4 =>
        cases e4
        exact q B4 (s2.trans (s3.trans s4))

/-! GEnT: enumerate of a tuple. -/
theorem enT_new (q : Addr) (ys : Array Value) : Meets (Builtin.«enumerate.__new__» ⟨[.type "enumerate", .ref q], []⟩) (fun _ R s => s.heap.IsTuple q ys ∧
    R (.ok (.ret (.ref (s.heap.push { cls := .type "tuple_iterator", data := .fields #[.ref q, .int 0 0] }).objs.size)))
      { s with heap := (s.heap.push { cls := .type "tuple_iterator", data := .fields #[.ref q, .int 0 0] }).push { cls := .type "enumerate", data := .fields #[.none, .bool false, .ref s.heap.objs.size, rawInt 0, .none, .none] } }) :=
  .of_wp fun P W A' R s0 z => by
    obtain ⟨hp, gs, dr, tks, oss⟩ := s0
    obtain ⟨z1, z2⟩ := z
    have sub := sub_enumerate
    have go : ∀ {B : Around} {E' : Value → Shared → Prop} {Q' : Value → Shared → Prop}, Q' (.ref hp.objs.size) ⟨hp.push { cls := .type "tuple_iterator", data := .fields #[.ref q, .int 0 0] }, gs, dr, tks, oss⟩ → wpAny (model P W) B (pyIter (.ref q)) Q' E' ⟨hp, gs, dr, tks, oss⟩ :=
      fun y => (begins_tuple q ys).iter P W _ _ ⟨hp, gs, dr, tks, oss⟩ _ z1 y
    wp_walk using go
    refine wpAny_stack_any fun stk => wpAny_pure ?_
    split
    · rename_i cc _ _ _ _ _
      cases (cc == Value.type "enumerate")
      · wp_walk using go
        exact ⟨_, rfl, z2⟩
      · wp_walk using go
        exact ⟨_, rfl, z2⟩
    · wp_walk using go
      exact ⟨_, rfl, z2⟩
theorem enT_call {P : Program} {W : World} {A' : Around} {E' : Value → Shared → Prop} {s0 : Shared} {q : Addr} {ys : Array Value} {Q' : Value → Shared → Prop} (ht : s0.heap.IsTuple q ys)
    (k : ∀ h', IsEnum h' (s0.heap.objs.size + 1) s0.heap.objs.size 0 .none → h'.IsTupleIter s0.heap.objs.size q 0 → (∀ b o, s0.heap.get? b = some o → h'.get? b = some o) → Q' (.ref (s0.heap.objs.size + 1)) { s0 with heap := h' }) :
    wpAny (model P W) A' (call (.type "enumerate") [.ref q]) Q' E' s0 := by
  refine callType_new F.called_enumerate (by decide) (F.typeCall_enumerate_1 _) (F.newCall_enumerate_1 _) (fun ob => F.args_object_init_2 ob _) F.entry_enumerate_new (enT_new q ys) ⟨ht, ?_⟩
  have e1 : (s0.heap.push { cls := .type "tuple_iterator", data := .fields #[.ref q, .int 0 0] }).objs.size = s0.heap.objs.size + 1 := Heap.size_push ..
  show _ ∧ _
  rw [e1]
  have e2 : IsEnum ((s0.heap.push { cls := .type "tuple_iterator", data := .fields #[.ref q, .int 0 0] }).push { cls := .type "enumerate", data := .fields #[.none, .bool false, .ref s0.heap.objs.size, rawInt 0, .none, .none] }) (s0.heap.objs.size + 1) s0.heap.objs.size 0 .none := by
    have e3 := Heap.get?_push_size (s0.heap.push { cls := .type "tuple_iterator", data := .fields #[.ref q, .int 0 0] }) (o := { cls := .type "enumerate", data := .fields #[.none, .bool false, .ref s0.heap.objs.size, rawInt 0, .none, .none] }) rfl
    rw [e1] at e3
    exact e3
  exact ⟨⟨_, e2, rfl⟩, k _ e2 ⟨_, Heap.get?_push_of_some _ (Heap.get?_push_size _ rfl), rfl, rfl⟩ fun b o x => Heap.get?_push_of_some _ (Heap.get?_push_of_some _ x)⟩
/-- the tuple at a, each item in a new pair -/
def IteT (K : PySem.W.Frag) (a : Addr) : It :=
  ⟨fun i H => ∃ (ys : List V) (y : V), SqT K H a ys ∧ ys[i]? = some y, fun i H v H' => ∃ T y, v = .ref T ∧ H T = none ∧ H' = upd H T (.tup [.int (i : Nat), y]) ∧ ∀ ys, SqT K H a ys → ys[i]? = some y, fun i H => ∃ ys : List V, SqT K H a ys ∧ ys.length ≤ i⟩
theorem turn_enT {P : Program} {W : World} {K : PySem.W.Frag} {ts : List Expr} {kk : Nat} {tpos : Pos} (a en it : Addr) (n1 : en ≠ it) (n2 : a ≠ it) (n3 : a ≠ en) :
    Turn P W K (.Tuple ts kk tpos) (IteT K a) [en, it] en (fun i h => (∃ old, IsEnum h en it ((i : Nat) : Int) old) ∧ h.IsTupleIter it a i) where
  mem := by simp
  obj := fun i h st b hb => by
    obtain ⟨⟨old, h1⟩, ⟨o, h2, _, h3⟩⟩ := st
    rcases List.mem_cons.mp hb with rfl | hb
    · exact ⟨_, h1, fun v z => nomatch z⟩
    · rw [List.mem_singleton.mp hb]
      exact ⟨o, h2, fun v z => by rw [h3] at z; cases z⟩
  keep := fun i h h' st k => ⟨st.1.elim fun old h1 => ⟨old, k en (by simp) _ h1⟩, st.2.at fun o z => k it (by simp) o z⟩
  item := by
    intro X xP xw xK xc i pins s0 σ H E I hf st hg
    subst xP xw xK
    obtain ⟨⟨old, h1⟩, h2⟩ := st
    obtain ⟨ys, y, g1, g2⟩ := hg
    obtain ⟨its, rv, p, _⟩ := I.tuple g1
    obtain ⟨u, hu, ru⟩ := rv.get g2
    have el : en < s0.heap.objs.size := Heap.lt_size h1
    have il : it < s0.heap.objs.size := by
      obtain ⟨_, z, _⟩ := h2
      exact Heap.lt_size z
    have hi : i < its.toArray.size := by
      have := (List.getElem?_eq_some_iff.mp hu).1
      simpa using this
    have hh : X.A.in1.handled = none := I.ok.hd xc
    refine wpAny_pyNext_enum_itemD (Draws.tuple hh it a n2 its.toArray) h1 ⟨h2, p⟩ hi n1 (by simp [n1, Ne.symm n3]) fun x h' tk hP ho hst hT hsz hk => ?_
    have ex : x = u := by
      have e1 : its[i]? = some x := by simpa using hP
      rw [hu] at e1
      exact (Option.some.inj e1).symm
    subst ex
    refine ⟨_, rfl, wpAny_letOwnedTupleGo_enum (s := { s0 with heap := h', toks := tk + 1 }) ho fun h'' he' sb => ?_⟩
    have t2 : h''.get? s0.heap.objs.size = some { cls := .type "tuple", data := .seq #[.int i tk, x] } := (sb.2 _ (Nat.ne_of_gt el)).trans hT
    have fresh : ObjOk X.prog X.w (upd H s0.heap.objs.size (.tup [.int (i : Nat), y])) h'' s0.heap.objs.size (.tup [.int (i : Nat), y]) :=
      ⟨by show 2 ≤ sizeLine; decide, [.int i tk, x], .cons ⟨_, rfl⟩ (.cons ru .nil), ⟨_, t2, rfl, _, rfl⟩⟩
    have I1 : Inv X pins σ (upd H s0.heap.objs.size (.tup [.int (i : Nat), y])) { s0 with heap := h'', toks := tk + 1 } :=
      I.turnedNew (ch := [en, it]) (fun b o hb z => (sb.2 b (fun e => hb (by simp [e]))).trans (hk b o (fun e => hb (by simp [e])) (fun e => hb (by simp [e])) z)) hf (Nat.le_refl _) fresh
    refine ⟨.ref s0.heap.objs.size, _, I1, rfl, ⟨_, y, rfl, I.hok.fresh (Nat.le_refl _), rfl, fun zs hz => by rw [I.tuple_inj hz g1]; exact g2⟩, ⟨⟨x, ?_⟩, hst.1.at fun o z => (sb.2 it (Ne.symm n1)).trans z⟩, fun b hb => ?_⟩
    · rw [show ((i + 1 : Nat) : Int) = (i : Int) + 1 by omega]
      exact he'
    · have lt : b < s0.heap.objs.size := by
        rcases List.mem_cons.mp hb with rfl | hb
        · exact el
        · rw [List.mem_singleton.mp hb]
          exact il
      rw [upd_ne (Nat.ne_of_lt lt)]
      exact (hf b hb).1
  done := by
    intro X xP xw xK xc i pins s0 σ H E I hf st hg
    subst xP xw xK
    obtain ⟨⟨old, h1⟩, h2⟩ := st
    obtain ⟨ys, g1, g2⟩ := hg
    obtain ⟨its, rv, p, _⟩ := I.tuple g1
    obtain ⟨f0, f1, f2, f3, f4, f5⟩ := hf it (by simp)
    have hl := rv.length
    have hh : X.A.in1.handled = none := I.ok.hd xc
    have hend : its.toArray[i]? = none := by simp; omega
    have key : wpAny (model X.prog X.w) X.A (pyNext (.ref en)) (fun r s' => r = none ∧ Inv X pins σ H s') E s0 := by
      have hT : s0.TypeIs (.ref en) "enumerate" := ⟨_, h1, rfl⟩
      unfold pyNext
      refine wpAny_bind (wpAny_attempt (wpAny_callSpecial?_slot (name := Str.ofString "__next__") hT F.slot_enumerate_next (wpAny_call_entry F.slot_enumerate_next hT F.entry_enumerate_next ?_ (F.args_enumerate_next_1 _))))
      show wpAny _ _ (field (.ref en) 2 >>= _) _ _ _
      refine wpAny_bind (wpAny_field h1 rfl (x := .ref it) rfl ?_)
      refine wpAny_bind (wpAny_nextOf_tuple_end hh h2 p hend fun h' x he' hx' => ?_)
      obtain ⟨o, ho, hc⟩ := hx'
      refine wpAny_bind (wpAny_isInstance (T := "StopIteration") (b := true) ⟨o, ho, hc⟩ isSubtype_stop ?_)
      exact wpAny_pure ⟨rfl, I.turned (t' := s0.toks) (fun b o hb z => he' b o hb z) f0 f1 f3 f4 f5⟩
    exact key
  self := fun A' i s0 Q' E' st h => st.1.elim fun _ he => wpAny_pyIter_enum he h
def iEnT (K : PySem.W.Frag) (ta : TA) : TI := fun σ H R => ta σ H fun vs H1 => ∃ a ys, vs = [.ref a] ∧ SqT K H1 a ys ∧ R (IteT K a) H1
section
variable {X : Cx} {e : Expr} {ta : TA} {p pos tpos : Pos} {ts : List Expr} {kk : Nat} {k : FA}
theorem pi_enT (hg : Gl X "enumerate") (hm : X.mg "enumerate" = none) (ha : PA X [e] ta) (hs : starEach [e] X.env = [(false, eval e X.env)] := by rfl) : PI X (.Tuple ts kk tpos) (.Call (.Name "enumerate" p) [e] [] pos) (iEnT X.K ta) := by
  refine ⟨fun pins s0 σ H R I h => Call_ (ld_blt I hg hm boot_enumerate (PyProof.Rows.callWith_type1 (thn (ha.run pos pins s0 σ H _ I h) fun us s1 ⟨vs, H1, I1, r1, q1⟩ => ?_) hs rfl))⟩
  obtain ⟨a, ys, ex, hq, q⟩ := q1
  subst ex
  cases r1 with
  | cons r rr =>
    cases rr
    cases r
    obtain ⟨its, rv, p', _⟩ := I1.tuple hq
    have al : a < s1.heap.objs.size := by
      obtain ⟨o, ho, _⟩ := id p'
      exact Heap.lt_size ho
    refine enT_call p' fun h' he hit hk => wpAny_pyIter_enum he ?_
    have I2 : Inv X pins σ H1 { s1 with heap := h' } := I1.kept (t' := s1.toks) hk
    refine ⟨s1.heap.objs.size + 1, [s1.heap.objs.size + 1, s1.heap.objs.size], _, _, H1, rfl, I2, turn_enT a (s1.heap.objs.size + 1) s1.heap.objs.size (Nat.succ_ne_self _) (Nat.ne_of_lt al) (Nat.ne_of_lt (Nat.lt_succ_of_lt al)), ⟨⟨.none, he⟩, hit⟩, fun b hb => ?_, q⟩
    have hle : s1.heap.objs.size ≤ b := by
      rcases List.mem_cons.mp hb with rfl | hb
      · exact Nat.le_add_right _ _
      · rw [List.mem_singleton.mp hb]
        exact Nat.le_refl _
    exact I1.fpOk hle (I1.hok.fresh hle)
def enT1 : List PyData → Option (List PyData)
  | [.tuple xs] => some (enumD 0 xs)
  | _ => none
theorem di_enT (hm : X.mg "enumerate" = none) (ha : DA X [e] k) (hg : Gl X "enumerate" := by rfl) (hs : starEach [e] X.env = [(false, eval e X.env)] := by rfl) :
    DI X (.Tuple ts kk tpos) (.Call (.Name "enumerate" p) [e] [] pos) (fRg enT1 k) := pi_imp (pi_enT hg hm ha hs) fun σ H R ⟨Z, B, ρ, ds, ρ', ok, q0, q⟩ => by
  unfold fRg at q0
  obtain ⟨⟨d, ρ1⟩, e1, e2⟩ := Option.bind_eq_some_iff.mp q0
  obtain ⟨xs, e3, e4⟩ := Option.map_eq_some_iff.mp e2
  cases e4
  refine ⟨Z, B, ρ, d, _, ok, e1, fun B1 H1 vs s1 ok1 dv => ?_⟩
  replace e3 : enT1 d = some _ := e3
  unfold enT1 at e3
  split at e3
  · cases e3
    obtain ⟨v, rfl, h1⟩ := drAll_one dv
    cases h1 with
    | tup g1 g2 =>
      refine ⟨_, _, rfl, SqT.of (ok1.le _ _ g1), q B1 H1 _ s1 ok1 fun Z B2 σ H ρ i s2 ok2 => ?_⟩
      have hq := SqT.of (K := X.K) (ok2.le _ _ (s2 _ _ g1))
      refine ⟨fun e => ⟨_, hq, by rw [enumD_length] at e; rw [g2.length, e]; exact Nat.le_refl _⟩, fun d e => ?_⟩
      obtain ⟨x, e5, rfl⟩ := enumD_at _ _ _ _ e
      obtain ⟨v, h3, h4⟩ := g2.get e5
      refine ⟨⟨_, v, hq, h3⟩, fun z H' ⟨T, v', e6, e7, e8, e9⟩ => ?_⟩
      have e10 := e9 _ hq
      rw [h3] at e10
      cases e10
      subst e6 e8
      rw [Nat.zero_add]
      exact pair_new ok2 e7 (.int _) (h4.mono s2)
  · cases e3
@[simp] theorem enT1_t (xs : List PyData) : enT1 [.tuple xs] = some (enumD 0 xs) := rfl
end

/-! GDisT: a dict shown with one tuple key. -/
def tDisT1 (tk tv : TE) : TE := fun σ H Q => ∀ p, H p = none → tk σ (upd H p (.dT [])) fun y H1 => tv σ H1 fun x H2 => ∃ b ks, y = .ref b ∧ H2 b = some (.tup (ks.map kV)) ∧ H2 p = some (.dT []) ∧ Q (.ref p) (upd H2 p (.dT [(ks, x)]))
section
variable {X : Cx} {k v : Expr} {pos : Pos} {tk tv : TE}
theorem pe_disT1 (hu : X.A.units + 1 < cLine) (hk : PE X k tk) (hv : PE X v tv) : PE X (.Dict [some k] [v] pos) (tDisT1 tk tv) := by
  refine ⟨fun pins s0 σ H Q I q => ?_⟩
  have n0 := I.hok.fresh (Nat.le_refl s0.heap.objs.size)
  have I1 := I.laid (a := s0.heap.objs.size) (o := .dT []) (h' := s0.heap.push { cls := .type "dict", data := .dict #[] }) (t' := s0.toks) (fun _ _ z => Heap.get?_push_of_some _ z) (Nat.le_refl _) (dt_empty s0.heap I.big)
  have shape : (evalEachOpt [some k] X.env).zip ((evalEach [v] X.env).map fun w => do let x ← w; standAt pos; pure x) = ([(eval k X.env, do let x ← eval v X.env; standAt pos; pure x)] : List (Sem Value × Sem Value)).map fun p => (some p.1, p.2) := rfl
  rw [arm_eval_Dict, shape, dictDisplay_pairs _ (by simp) (by simp)]
  refine wpAny_bind (wpAny_standAt (wpAny_bind ?_))
  unfold subDict
  refine wpAny_bind (wpAny_alloc (wpAny_bind (wpAny_holding ?_)))
  rw [if_pos (by simp)]
  refine wpAny_bind (evalPairs_cons (thn (hk.run pins _ σ _ _ I1 (q _ n0)) fun kv s2 ⟨y, H1, I2, ry, q2⟩ => wpAny_bind (thn (hv.run pins s2 σ H1 _ I2 q2) fun vv s3 ⟨x, H2, I3, rx, b, ks, ey, eb, ep, q3⟩ => wpAny_bind (wpAny_standAt (wpAny_pure (evalPairs_nil ?_))))))
  subst ey
  cases (show kv = Value.ref b from ry)
  refine wpAny_holding (wpAny_bind ?_)
  rw [List.forIn_cons]
  obtain ⟨z, hd, xs, rel, dd⟩ := dt_of I3.hok ep
  have hz : xs.length ≤ sizeLine := by
    rw [← Paired.length rel]
    exact Nat.zero_le _
  refine wpAny_bind (wpAny_bind (wpAny_dictSet_heap (hsz := hz) (show X.A.units < cLine by omega) (key_of I3.hok eb) dd fun h' dd' hs => wpAny_pure ?_))
  dsimp only
  rw [List.forIn_nil]
  obtain ⟨u, es, e9, hq, h2, h3, h4, _, h5⟩ := dd'
  refine wpAny_pure (wpAny_pure (wpAny_pure (wpAny_pure ⟨.ref s0.heap.objs.size, upd H2 s0.heap.objs.size (.dT [(ks, x)]), d_write I3 (by rw [ep]; exact True.intro) hs ⟨u, hq⟩ ⟨by show 1 ≤ sizeLine; decide, hd, _, (rel.put ks eb rx).keeps fun c ys ec => ?_, u, es, e9, hq, h2, h3, h4, h5⟩, rfl, q3⟩)))
  rw [upd_ne (ne_of ec ep (fun z => nomatch z))]
  exact ec
end
def fDisT1 (f g : FE) : FR := fun ρ => (f ρ).bind fun p => (g p.2).bind fun q => (tkeyD p.1).map fun ks => (.ot [(ks, q.1)], q.2)
theorem dr_disT1 {X : Cx} {k v : Expr} {pos : Pos} {f g : FE} {n : Nat} (hr : Room n X.A) (hk : DE X k f) (hv : DE X v g) : DR X (.Dict [some k] [v] pos) (fDisT1 f g) := pe_imp (pe_disT1 (u1 hr) hk hv) fun σ H Q ⟨Z, B, ρ, s, ρ', ok, e, q⟩ => by
  unfold fDisT1 at e
  obtain ⟨⟨d1, ρ1⟩, e1, e2⟩ := Option.bind_eq_some_iff.mp e
  obtain ⟨⟨d2, ρ2⟩, e3, e4⟩ := Option.bind_eq_some_iff.mp e2
  obtain ⟨ks, e5, e6⟩ := Option.map_eq_some_iff.mp e4
  cases e6
  intro p hp
  have ok1 := (ok.junk (o := .dT []) hp).keep upd_same (ok.le.free hp) (NotOwn.new ok hp)
  refine ⟨_, B, ρ, d1, ρ1, ok1, e1, fun B1 H1 y s1 ok2 dy => ⟨_, B1, ρ1, d2, ρ2, ok2, e3, fun B2 H2 x s2 ok3 dx => ?_⟩⟩
  obtain ⟨b, rfl, hb⟩ := dr_tkey (dy.mono s2) e5
  have zp : (Z.upd p (.dT [])).fr p = some (.dT []) := upd_same
  have hp2 : H2 p = some (.dT []) := ok3.lz _ _ zp
  have bp : B2 p = none := ok3.dj _ _ zp
  have zn : Z.fr p = none := ok.lz.free hp
  have hn : NotOwn σ ρ2 p := fun j s e1 e2 e3 => by
    obtain ⟨a, o, g1, g2, g3, g4, _⟩ := ok3.ow j s e1 e2
    have := ref_same e3 g1
    subst this
    rw [zp] at g4
    cases g4
  have ok4 : EnvOk Z B2 σ H2 ρ2 := ok3.zle (same_upd_new zn) rfl
  refine ⟨b, ks, rfl, ok3.le _ _ hb, hp2, ?_⟩
  exact q B2 _ _ (s1.trans s2) (ok4.other bp zn hn (fun u z => by rw [hp2] at z; cases z; trivial)) (.inr ⟨p, .dT [(ks, x)], rfl, upd_same, bp, zn, hn, .cons dx .nil, rfl⟩)
@[simp] theorem fDisT1_eq (f g : FE) (ρ : En) : fDisT1 f g ρ = (f ρ).bind fun p => (g p.2).bind fun q => (tkeyD p.1).map fun ks => (.ot [(ks, q.1)], q.2) := rfl

/-! GK9: fresh lists by +, int(bool), list(range(n)), dict comprehensions, sorted of one, sum of a dict's values, a loop over a dict. -/
section
variable {X : Cx} {a b e : Expr} {f g : FE} {pos p p2 pos2 : Pos} {k : FA}
/-! ### a + b, a list of one's own -/
def fCat (f g : FE) : FR := fun ρ => (f ρ).bind fun p => (g p.2).bind fun q => match p.1, q.1 with
  | .list xs, .list ys => if xs.length + ys.length ≤ 16777216 then some (.ow (xs ++ ys), q.2) else none
  | _, _ => none
theorem dr_cat (ha : DE X a f) (hb : DE X b g) : DR X (.BinOp a .Add b pos) (fCat f g) := pe_imp (pe_op op_cat ha hb) fun σ H Q ⟨Z, B, ρ, s, ρ', ok, e, q⟩ => by
  unfold fCat at e
  obtain ⟨⟨d1, ρ1⟩, e1, e2⟩ := Option.bind_eq_some_iff.mp e
  obtain ⟨⟨d2, ρ2⟩, e3, e4⟩ := Option.bind_eq_some_iff.mp e2
  split at e4
  · rename_i xs ys z1 z2
    replace z1 : d1 = .list xs := z1
    replace z2 : d2 = .list ys := z2
    subst z1 z2
    split at e4
    · rename_i hl
      cases e4
      refine ⟨Z, B, ρ, _, ρ1, ok, e1, fun B1 H1 v s1 ok1 dv => ⟨Z, B1, ρ1, _, _, ok1, e3, fun B2 H2 w s2 ok2 dw => ?_⟩⟩
      have dv2 := dv.mono s2
      cases dv2 with
      | lst h1 h2 =>
        cases dw with
        | lst h3 h4 =>
          refine ⟨_, _, _, _, rfl, rfl, ok2.le _ _ h1, ok2.le _ _ h3, by rw [h2.length, h4.length]; exact hl, fun p hp => ?_⟩
          obtain ⟨ok4, r4⟩ := own_lst ok2 (h2.app h4) hp
          exact q B2 _ _ (s1.trans s2) ok4 r4
    · cases e4
  · cases e4
/-! ### int(x) -/
def hInt : List PyData → Option Sl
  | [.int i] => some (.sh (.int i))
  | [.bool b] => some (.sh (.int (if b then 1 else 0)))
  | _ => none
theorem cd_int : CallD (fun xs H Q => (∃ i, xs = [.int i] ∧ Q (.int i) H) ∨ ∃ k, xs = [.bl k] ∧ Q (.int (if k then 1 else 0)) H) hInt := fun Z B σ H ρ vs ds s ok dv hz Q q => by
  unfold hInt at hz
  split at hz
  · cases hz
    obtain ⟨v, rfl, h1⟩ := drAll_one dv
    cases h1
    exact .inl ⟨_, rfl, cd_sh q ok (.int _)⟩
  · cases hz
    obtain ⟨v, rfl, h1⟩ := drAll_one dv
    cases h1
    exact .inr ⟨_, rfl, cd_sh q ok (.int _)⟩
  · cases hz
theorem dr_int (hm : X.mg "int" = none) (ha : DA X [e] k) (hg : Gl X "int" := by rfl) (he : starEach [e] X.env = (false, eval e X.env) :: starEach [] X.env := by rfl) (hpl : (backTo pos (starEach [] X.env)).any (·.1) = false := by rfl) : DR X (.Call (.Name "int" p) [e] [] pos) (fCall hInt k) := dr_callTy call_int1 cd_int hm PyProof.Rows.boot_int ha hg (by decide) (by decide) he hpl
/-! ### list(range(n)) -/
theorem cr_rng1 : CallR X (.type "range") (fun vs H Q => ∃ j, vs = [V.int j] ∧ ∀ p, H p = none → Q (.ref p) (upd H p (.rng 0 j))) := by
  intro pins s0 σ H vs us Q I r h
  obtain ⟨j, rfl, q⟩ := h
  obtain ⟨u, rfl, t, rfl⟩ := vals1 r
  refine call_range_1 ⟨.ref s0.heap.objs.size, upd H s0.heap.objs.size (.rng 0 j), I.laid (t' := s0.toks + 1 + 1) (fun _ _ z => Heap.get?_push_of_some _ z) (Nat.le_refl _) ⟨s0.toks, t, s0.toks + 1, Heap.get?_push_size _ rfl⟩, rfl, q _ (I.hok.fresh (Nat.le_refl _))⟩
theorem cr_lrng (hc : X.calm = true) : CallR X (.type "list") (fun vs H Q => ∃ (a : Addr) (n : Nat), vs = [V.ref a] ∧ H a = some (.rng 0 (n : Int)) ∧ n ≤ 16000000 ∧ ∀ p, H p = none → Q (.ref p) (upd H p (.lst ((List.range n).map fun (k : Nat) => V.int (k : Int))))) := by
  intro pins s0 σ H vs us Q I r h
  obtain ⟨a, n, rfl, hH, hn, q⟩ := h
  obtain ⟨u, rfl, ru⟩ := vals1 r
  cases ru
  obtain ⟨t, u, w, e1⟩ := I.hok a _ hH
  have sm : Builtin.Range.small 0 (n : Int) 1 = true := small_one (by decide) (by decide) (by rw [p62]; omega) (by rw [p62]; omega)
  have sz : Builtin.Range.rangeSize 0 (n : Int) 1 = n := by
    unfold Builtin.Range.rangeSize
    simp
    omega
  refine call_list_range (I.ok.hd hc) e1 sm sz (by omega) fun h' tk acc c hk hD hacc => ?_
  have hv : Vals ((List.range n).map fun (k : Nat) => V.int (k : Int)) acc.toList := by
    refine vals_of_ints (ns := (List.range n).map fun (k : Nat) => (k : Int)) ?_ |> fun z => by rwa [List.map_map] at z
    refine ints_each (by rw [Array.length_toList, hacc.1, List.length_map, List.length_range]) fun j v e => ?_
    have hj : j < n := by
      have := (List.getElem?_eq_some_iff.mp e).1
      rw [Array.length_toList, hacc.1] at this
      exact this
    obtain ⟨t', ht⟩ := hacc.2 j v (by rw [← Array.getElem?_toList]; exact e)
    refine ⟨(j : Int), t', by rw [List.getElem?_map, List.getElem?_range hj]; rfl, ?_⟩
    rw [ht, show (0 : Int) + (j : Int) * 1 = (j : Int) by omega]
  have e0 : acc.toList.toArray = acc := Array.toArray_toList
  refine ⟨.ref s0.heap.objs.size, _, I.laid (t' := tk) hk (Nat.le_refl _) (show ObjOk X.prog X.w _ h' _ (.lst _) from ⟨?_, acc.toList, c, hv, by rw [e0]; exact hD⟩), rfl, q _ (I.hok.fresh (Nat.le_refl _))⟩
  rw [List.length_map, List.length_range, sizeLine_eq]
  omega
def fLRng (f : FE) : FR := fun ρ => (f ρ).bind fun p => match p.1 with
  | .int j => if 0 ≤ j ∧ j ≤ 16000000 then some (.ow (rangeD 0 j.toNat), p.2) else none
  | _ => none
theorem dr_lrng (hm : X.mg "list" = none) (hm2 : X.mg "range" = none) (ha : DE X e f) (hg : Gl X "list" := by rfl) (hg2 : Gl X "range" := by rfl) (hc : X.calm = true := by rfl)
    (he : starEach [e] X.env = (false, eval e X.env) :: starEach [] X.env := by rfl) (hpl : (backTo pos2 (starEach [] X.env)).any (·.1) = false := by rfl) (hpl2 : (backTo pos (starEach [] X.env)).any (·.1) = false := by rfl)
    (he2 : starEach [.Call (.Name "range" p2) [e] [] pos2] X.env = (false, eval (.Call (.Name "range" p2) [e] [] pos2) X.env) :: starEach [] X.env := by rfl) : DR X (.Call (.Name "list" p) [.Call (.Name "range" p2) [e] [] pos2] [] pos) (fLRng f) :=
  pe_imp (pe_callTy (cr_lrng hc) hg hm PyProof.Rows.boot_list (pa_cons (pe_callTy cr_rng1 hg2 hm2 boot_range (pa_cons ha pa_nil he) (by decide) (by decide) he hpl) pa_nil he2) (by decide) (by decide) he2 hpl2) fun σ H Q ⟨Z, B, ρ, s, ρ', ok, e, q⟩ => by
  unfold fLRng at e
  obtain ⟨⟨d1, ρ1⟩, e1, e2⟩ := Option.bind_eq_some_iff.mp e
  split at e2
  · rename_i j z
    replace z : d1 = .int j := z
    subst z
    split at e2
    · rename_i hj
      cases e2
      refine ⟨Z, B, ρ, _, _, ok, e1, fun B1 H1 v s1 ok1 dv => ?_⟩
      cases dv
      refine ⟨j, rfl, fun p hp => ?_⟩
      have ej : j = (j.toNat : Int) := by omega
      refine ⟨p, j.toNat, rfl, by rw [upd_same, ← ej], by omega, fun p' hp' => ?_⟩
      have ok2 := ok1.junk (o := .rng 0 j) hp
      have d3 : DrAll B1 ((List.range j.toNat).map fun (k : Nat) => V.int (k : Int)) (rangeD 0 j.toNat) := by
        have h := DrAll.ints (H := B1) ((List.range j.toNat).map fun (k : Nat) => (k : Int))
        rw [List.map_map, List.map_map] at h
        unfold rangeD
        have e3 : (fun (k : Nat) => PyData.int (0 + (k : Int))) = PyData.int ∘ fun (k : Nat) => (k : Int) := by
          funext k
          show PyData.int _ = PyData.int _
          rw [Int.zero_add]
        rw [e3]
        exact h
      obtain ⟨ok4, r4⟩ := own_lst ok2 d3 hp'
      exact q B1 _ _ s1 ok4 r4
    · cases e2
  · cases e2
end
/-! ### dict comprehensions -/
def dcL (vs : List Nat) (g : FG) (tt : FT) (tk tv : FE) : List PyData → En → List (Key × PyData) → Option (List (Key × PyData) × En)
  | [], ρ, m => some (m, ρ)
  | d :: ds, ρ, m => (g d ρ).bind fun ρ1 => (tt ρ1).bind fun p => if p.1 = true then (tk p.2).bind fun k => (tv k.2).bind fun v => (keyD k.1).bind fun kk => dcL vs g tt tk tv ds (wipeE v.2 vs) (putD m kk v.1) else dcL vs g tt tk tv ds (wipeE p.2 vs) m
def fDc (vs : List Nat) (it : FI) (g : FG) (tt : FT) (tk tv : FE) : FR := fun ρ => (it ρ).bind fun p => if p.1.length ≤ 16000000 then (dcL vs g tt tk tv p.1 (wipeE p.2 vs) []).map fun r => (.ok r.1, wipeE r.2 vs) else none
theorem putD_le {κ : Type} [DecidableEq κ] (k : κ) (d : PyData) : ∀ m : List (κ × PyData), (putD m k d).length ≤ m.length + 1
  | [] => by simp [putD]
  | p :: m => by
    have ih := putD_le k d m
    unfold putD
    split
    · simp
    · simp only [List.length_cons]
      omega
theorem tDc_of {it : FI} {g : FG} {tt : FT} {tk tv : FE} {vs js : List Nat} (hj : ∀ j ∈ js, j ∈ vs) : ∀ σ H Q, tR (fDc vs it g tt tk tv) σ H Q → tDc (tI it) (tG js g) (tT tt) (tE tk) (tE tv) vs σ H Q := fun σ H Q ⟨Z, B, ρ, s, ρ', ok, q0, q⟩ => by
  unfold fDc at q0
  obtain ⟨⟨ds, ρ1⟩, e1, e2⟩ := Option.bind_eq_some_iff.mp q0
  split at e2
  · rename_i hlen
    obtain ⟨⟨ys, ρe⟩, e3, e4⟩ := Option.map_eq_some_iff.mp e2
    cases e4
    refine ⟨Z, B, ρ, ds, ρ1, ok, e1, fun B1 H1 J s1 ok1 wk D hD => ?_⟩
    have zD : Z.fr D = none := ok1.lz.free hD
    have bD : B1 D = none := ok1.le.free hD
    have start : EnvOk (Z.upd D (.dK [])) B1 (wipe σ vs) (upd H1 D (.dK [])) (wipeE ρ1 vs) := by
      have h1 : EnvOk Z B1 (wipe σ vs) H1 (wipeE ρ1 vs) := ok1.swap (wipe_length σ vs) fun j hj => wipe_out hj
      exact (h1.junk hD).keep upd_same bD (NotOwn.new h1 hD)
    refine ⟨fun i m H2 => m = ds.length - i ∧ i ≤ ds.length ∧ ∃ B2 ρ2 acc accV, Same B1 B2 ∧ EnvOk (Z.upd D (.dK accV)) B2 (wipe σ vs) H2 ρ2 ∧ KvR B2 accV acc ∧ acc.length ≤ i ∧ dcL vs g tt tk tv (ds.drop i) ρ2 acc = some (ys, ρe),
      ⟨ds.length, by simp, Nat.zero_le _, B1, _, [], [], Same.refl B1, start, .nil, Nat.le_refl _, by rw [List.drop_zero]; exact e3⟩, fun i m H2 hW => ?_⟩
    obtain ⟨rfl, hi, B2, ρ2, acc, accV, s2, ok2, da, hl, hf⟩ := hW
    have hDz : (Z.upd D (.dK accV)).fr D = some (.dK accV) := upd_same
    have sz : Same Z.fr (Z.upd D (.dK accV)).fr := same_upd_new zD
    by_cases h : i < ds.length
    · obtain ⟨d, h1, h2⟩ := drop_at h
      rw [h2] at hf
      obtain ⟨ρ3, e5, e6⟩ := Option.bind_eq_some_iff.mp hf
      obtain ⟨⟨b, ρ4⟩, e7, e8⟩ := Option.bind_eq_some_iff.mp e6
      obtain ⟨go, yl⟩ := (wk _ B2 (wipe σ vs) H2 ρ2 i s2 ok2).2 d h1
      refine .inr ⟨go, fun H' => ∃ B3 ρ3 acc accV, Same B1 B3 ∧ EnvOk (Z.upd D (.dK accV)) B3 (wipe σ vs) H' ρ3 ∧ KvR B3 accV acc ∧ acc.length ≤ i + 1 ∧ dcL vs g tt tk tv (ds.drop (i + 1)) ρ3 acc = some (ys, ρe), fun H' hN => ⟨ds.length - (i + 1), by omega, rfl, h, hN⟩, fun x H' hy' => ?_⟩
      obtain ⟨B3, s3, ok3, dx⟩ := yl x H' hy'
      refine ⟨_, B3, ρ2, d, ρ3, ok3, dx, e5, fun σ3 ok4 hσ => ⟨?_, _, B3, ρ3, b, ρ4, ok4, e7, fun B4 H4 s4 ok5 => ?_⟩⟩
      · rw [← wipe_wipe σ vs]
        exact wipe_eq hσ.len fun j hj' => hσ.out j fun z => hj' (hj j z)
      have back : ∀ {Z' : Zn} {B' H' : Hp} {ρ' : En}, EnvOk Z' B' σ3 H' ρ' → EnvOk Z' B' (wipe σ vs) H' (wipeE ρ' vs) := fun ok' => ok'.swap hσ.len.symm fun j hj' => (hσ.out j fun z => hj' (hj j z)).symm
      cases b with
      | true =>
        rw [if_pos rfl] at e8
        refine iteT ?_
        obtain ⟨⟨y, ρ5⟩, e9, e10⟩ := Option.bind_eq_some_iff.mp e8
        obtain ⟨⟨x', ρ6⟩, e11, e12⟩ := Option.bind_eq_some_iff.mp e10
        obtain ⟨kk, e13, e14⟩ := Option.bind_eq_some_iff.mp e12
        refine ⟨_, B4, ρ4, y, ρ5, ok5, e9, fun B5 H5 u s5 ok6 du => ⟨_, B5, ρ5, x', ρ6, ok6, e11, fun B6 H6 v s6 ok7 dv => ?_⟩⟩
        have s26 : Same B2 B6 := s3.trans (s4.trans (s5.trans s6))
        have hD5 : H6 D = some (.dK accV) := ok7.lz _ _ hDz
        have bD5 : B6 D = none := ok7.dj _ _ hDz
        have nD5 : NotOwn σ3 ρ6 D := fun j s' f1 f2 f3 => by
          obtain ⟨a, o, g1, g2, g3, g4, _⟩ := ok7.ow j s' f1 f2
          have := ref_same f3 g1
          subst this
          rw [hDz] at g4
          cases g4
        refine ⟨accV, kk, dr_key (du.mono s6) e13, hD5, by rw [KvR.length da]; exact sz16 (by have : ds.length ≤ 16000000 := hlen; omega), B6, _, putD acc kk x', putK accV kk v, s2.trans s26, ?_, KvR.put dv kk (KvR.mono s26 da), by have := putD_le kk x' acc; omega, e14⟩
        exact back (((ok7.zle sz rfl).other bD5 zD nD5 (fun u z => by rw [hD5] at z; cases z; trivial)).keep upd_same bD5 nD5)
      | false =>
        rw [if_neg Bool.false_ne_true] at e8
        refine iteF ?_
        exact ⟨B4, _, acc, accV, s2.trans (s3.trans s4), back ok5, KvR.mono (s3.trans s4) da, Nat.le_succ_of_le hl, e8⟩
    · have e : i = ds.length := by omega
      rw [e, List.drop_length] at hf
      cases hf
      refine .inl ⟨(wk _ B2 (wipe σ vs) H2 _ i s2 ok2).1 e, ?_⟩
      have hD2 : H2 D = some (.dK accV) := ok2.lz _ _ hDz
      have bD2 : B2 D = none := ok2.dj _ _ hDz
      have ok3 : EnvOk Z B2 σ H2 (wipeE ρe vs) := (ok2.zle sz rfl).swap (wipe_length σ vs).symm fun j hj' => (wipe_out hj').symm
      have nD : NotOwn σ (wipeE ρe vs) D := fun j s' f1 f2 f3 => by
        rcases wipeE_at f1 with z | ⟨h3, h4⟩
        · subst z
          cases f2
        · obtain ⟨a, o, g1, g2, g3, g4, _⟩ := ok2.ow j s' h4 f2
          rw [wipe_out h3] at g1
          have := ref_same f3 g1
          subst this
          rw [hDz] at g4
          cases g4
      exact q B2 H2 _ (s1.trans s2) ok3 (.inr ⟨D, _, rfl, hD2, bD2, zD, nD, da, rfl⟩)
  · cases e2
theorem dr_dc {X : Cx} {kx vx tg iter : Expr} {ifs : List Expr} {scope : Scope} {own : List (Str × Nat)} {pos : Pos} {it : FI} {g : FG} {tt : FT} {tk tv : FE} {js vs : List Nat} (hN : X.N.Nodup) (hi : DI X tg iter it) (ok : BlkOk X.N X.env.scope scope own)
    (hg : ∀ (s : Shared) (H : Hp) (C : Addr) (cl : List (Str × Addr)) (fp : List Addr), DG (X.blk s H scope (compEnvC scope cl C X.env) fp) tg js g)
    (ht : ∀ (s : Shared) (H : Hp) (C : Addr) (cl : List (Str × Addr)) (fp : List Addr), DTs (X.blk s H scope (compEnvC scope cl C X.env) fp) ifs tt)
    (hk : ∀ (s : Shared) (H : Hp) (C : Addr) (cl : List (Str × Addr)) (fp : List Addr), DE (X.blk s H scope (compEnvC scope cl C X.env) fp) kx tk)
    (he : ∀ (s : Shared) (H : Hp) (C : Addr) (cl : List (Str × Addr)) (fp : List Addr), DE (X.blk s H scope (compEnvC scope cl C X.env) fp) vx tv)
    (hc : X.calm = true := by rfl) (hv : own.map (·.2) = vs := by rfl) (hj : ∀ j ∈ js, j ∈ vs := by decide) (hs : ∀ x, foldedSetIterable iter X.env x = pure x := by intro _; rfl) :
    DR X (.DictComp kx vx [⟨tg, iter, ifs, 0⟩] scope pos) (fDc vs it g tt tk tv) := by
  subst hv
  exact pe_imp (pe_dc hc hN hi ok hg ht hk he hs) (tDc_of hj)
/-! ### sorted of a dict's int keys -/
def keysI : List (Key × PyData) → Option (List Int)
  | [] => some []
  | (.inl i, _) :: m => (keysI m).map (i :: ·)
  | _ => none
theorem keysI_eq : ∀ {m : List (Key × PyData)} {ks : List Int}, keysI m = some ks → m.map (·.1) = ks.map Sum.inl
  | [], ks, h => by cases h; rfl
  | (.inl i, d) :: m, ks, h => by
    obtain ⟨l, h1, h2⟩ := Option.map_eq_some_iff.mp (show (keysI m).map (i :: ·) = some ks from h)
    subst h2
    rw [List.map_cons, keysI_eq h1]
    rfl
  | (.inr _, _) :: _, _, h => by cases h
theorem KvR.keys {B : Hp} {κ : Type} : ∀ {l : List (κ × V)} {m : List (κ × PyData)}, KvR B l m → l.map (·.1) = m.map (·.1)
  | _, _, .nil => rfl
  | _, _, .cons _ t => by rw [List.map_cons, List.map_cons, KvR.keys t]
def fSortD (f : FR) : FR := fun ρ => (f ρ).bind fun p => match p.1 with
  | .ok m => (keysI m).bind fun ks => if ks.length < 64 then some (.ow ((srtI ks).map PyData.int), p.2) else none
  | _ => none
section
variable {X : Cx} {e : Expr} {f : FR} {pos p : Pos}
theorem dr_sortD (hm : X.mg "sorted" = none) (ha : DR X e f) (hg : Gl X "sorted" := by rfl) (hc : X.calm = true := by rfl) (he : starEach [e] X.env = (false, eval e X.env) :: starEach [] X.env := by rfl) (hpl : (backTo pos (starEach [] X.env)).any (·.1) = false := by rfl) :
    DR X (.Call (.Name "sorted" p) [e] [] pos) (fSortD f) := pe_imp (pe_callB (call_sortedDI hc) hg hm boot_sorted (pa_cons ha pa_nil he) (by decide) (by decide) he hpl) fun σ H Q ⟨Z, B, ρ, s, ρ', ok, e, q⟩ => by
  unfold fSortD at e
  obtain ⟨⟨s1, ρ1⟩, e1, e2⟩ := Option.bind_eq_some_iff.mp e
  split at e2
  · rename_i m z
    replace z : s1 = .ok m := z
    subst z
    obtain ⟨ks, e3, e4⟩ := Option.bind_eq_some_iff.mp e2
    split at e4
    · rename_i hl
      cases e4
      refine ⟨Z, B, ρ, _, _, ok, e1, fun B1 H1 v s1 ok1 rv => ?_⟩
      rcases rv with ⟨d, z, _⟩ | ⟨a, o, rfl, h1, h2, h3, h4, h5, _⟩
      · cases z
      · cases o with
        | dK l =>
          refine ⟨a, l, ks, rfl, .inl h1, (KvR.keys h5).trans (keysI_eq e3), hl, fun ys p g1 g2 hp => ?_⟩
          have e5 : ys = srtI ks := sorted_one (g1.trans (srtI_perm ks).symm) g2 (srtI_sorted ks)
          subst e5
          obtain ⟨ok4, r4⟩ := own_lst ok1 (DrAll.ints (H := B1) (srtI ks)) hp
          exact q B1 _ _ s1 ok4 r4
        | _ => exact h5.elim
    · cases e4
  · cases e2
end
@[simp] theorem fCat_eq (f g : FE) (ρ : En) : fCat f g ρ = (f ρ).bind fun p => (g p.2).bind fun q => match p.1, q.1 with
  | .list xs, .list ys => if xs.length + ys.length ≤ 16777216 then some (.ow (xs ++ ys), q.2) else none
  | _, _ => none := rfl
@[simp] theorem hInt_b (b : Bool) : hInt [.bool b] = some (.sh (.int (if b then 1 else 0))) := rfl
@[simp] theorem fLRng_eq (f : FE) (ρ : En) : fLRng f ρ = (f ρ).bind fun p => match p.1 with
  | .int j => if 0 ≤ j ∧ j ≤ 16000000 then some (.ow (rangeD 0 j.toNat), p.2) else none
  | _ => none := rfl

/-! GK9b: sum of a dict's values, a loop over a dict. -/
/-! ### sum(d.values()) -/
def ValsO (r d : Addr) : HO := .ext fun h => h.IsValuesView r d
def tVals (td : TE) : TE := fun σ H Q => td σ H fun x H1 => ∃ a kvs, x = .ref a ∧ Rd H1 a (.dK kvs) ∧ ∀ r, H1 r = none → Q (.ref r) (upd H1 r (ValsO r a))
section
variable {X : Cx} {e : Expr} {td : TE} {apos cpos pos p : Pos} {x : Str}
theorem pe_vals (he : PE X e td) (hbase : attributeBase e "values" X.env (eval e X.env) = eval e X.env := by rfl) (hline : (apos.endLine == cpos.line) = true := by rfl) : PE X (.Call (.Attribute e "values" apos) [] [] cpos) (tVals td) := by
  refine ⟨fun pins s0 σ H Q I h => ?_⟩
  refine wpAny_Call_method (T := "dict") (id := "dict.values") hbase rfl hline F.plainAttrs_dict F.slot_dict_values F.type_dict_values (thn (he.run pins s0 σ H _ I h) fun u s1 ⟨y, H1, I1, ry, a, kvs, ey, hd, q⟩ => ?_)
  subst ey
  obtain rfl : u = Value.ref a := ry
  obtain ⟨z, lo, vs, rel, dd⟩ := dk_rd I1.hok hd
  refine ⟨dd.typeIs, dd.mapOf.noDict, ?_⟩
  have view : (s1.heap.push { cls := .type "dict_values", data := .fields #[.ref a] }).IsValuesView s1.heap.objs.size a := ⟨_, Heap.get?_push_size _ rfl, rfl, rfl⟩
  have I2 : Inv X pins σ (upd H1 s1.heap.objs.size (ValsO s1.heap.objs.size a)) { s1 with heap := s1.heap.push { cls := .type "dict_values", data := .fields #[.ref a] } } :=
    I1.laid (t' := s1.toks) (fun _ _ w => Heap.get?_push_of_some _ w) (Nat.le_refl _) ⟨view, ⟨_, Heap.get?_push_size _ rfl⟩, fun h1 h2 ⟨o, g1, g2, g3⟩ st => ⟨o, st _ g1, g2, g3⟩⟩
  show wpAny _ _ (callWith cpos (.builtin "dict.values") [.ref a] [] []) _ X.xe s1
  exact method_meetsIn F.slot_dict_values F.entry_dict_values rfl (PySem.evalArgs_none ⟨rfl, dd.typeIs, F.args_dict_values_1 _, _, meets_dict_values (mixKind X.prog X.w) a lo, ⟨vs, dd⟩, ⟨.ref s1.heap.objs.size, _, I2, rfl, q _ (I1.hok.fresh (Nat.le_refl _))⟩⟩)
theorem preSum_ns : ∀ (ns : List Int), preSum (fun i => ns.getD i 0) ns.length = ns.sum
  | [] => rfl
  | n :: ns => by
    have ih := preSum_ns ns
    rw [List.length_cons, PySem.W.kdu_shift, List.sum_cons]
    have e1 : (fun i => (n :: ns).getD (i + 1) 0) = fun i => ns.getD i 0 := rfl
    rw [e1, ih]
    rfl
theorem cr_sumVals (hc : X.calm = true) : CallR X (.builtin "sum") (fun vs H Q => ∃ (r a : Addr) (kvs : List (Key × V)) (ns : List Int), vs = [V.ref r] ∧ H r = some (ValsO r a) ∧ Rd H a (.dK kvs) ∧ kvs.map (·.2) = ns.map V.int ∧ Q (.int ns.sum) H) := by
  intro pins s0 σ H vs us Q I rr h
  obtain ⟨r, a, kvs, ns, rfl, hr, hd, hv, q⟩ := h
  obtain ⟨u, rfl, ru⟩ := vals1 rr
  cases ru
  have view : s0.heap.IsValuesView r a := (I.hok r _ hr).1
  obtain ⟨z, lo, vs, rel, dd⟩ := dk_rd I.hok hd
  obtain ⟨ep, hat⟩ := dd.dictAt
  have hh : X.A.handled = none := I.ok.hd hc
  have hlen : vs.length = ns.length := by
    rw [← rel.length]
    have := congrArg List.length hv
    rw [List.length_map, List.length_map] at this
    exact this
  refine call_sum_walkAnyS ?_
  have Kd := PySem.W.kdl_values (prog := X.prog) (w := X.w) (r := r) (d := a) (knd := mixKind X.prog X.w) (kvs := vs) (ep := ep)
  obtain ⟨oI, St, hit, W, st⟩ := Kd.iter X.A.in1 s0 hh ⟨view, hat⟩
  refine hit _ _ ⟨s0.heap.objs.size, _, _, _, vs.length, _, _, fun i => ns.getD i 0, rfl, W.toS, st, fun b hb => ?_, fun i v ⟨k, hk⟩ => ?_, fun s' t' hm => ?_⟩
  · show b < (s0.heap.push oI).objs.size
    rw [size_push']
    rcases List.mem_cons.mp hb with e | hb
    · rw [e]
      exact Nat.lt_succ_self _
    · rw [List.mem_singleton.mp hb]
      exact Nat.lt_succ_of_lt (Kd.there _ ⟨view, hat⟩).2
  · have hi : i < vs.length := (List.getElem?_eq_some_iff.mp hk).1
    have hi2 : i < kvs.length := by rw [rel.length]; exact hi
    obtain ⟨⟨k', w⟩, hw⟩ : ∃ y, kvs[i]? = some y := ⟨kvs[i], List.getElem?_eq_getElem hi2⟩
    obtain ⟨u, hu, ru⟩ := kv_get rel hw
    have e1 : (kvs.map (·.2))[i]? = some w := by rw [List.getElem?_map, hw]; rfl
    rw [hv, List.getElem?_map] at e1
    obtain ⟨m, hm, rfl⟩ := Option.map_eq_some_iff.mp e1
    rw [hk] at hu
    cases hu
    obtain ⟨t, rfl⟩ := ru
    refine ⟨t, ?_⟩
    show Value.int m t = Value.int (ns.getD i 0) t
    rw [List.getD_eq_getElem?_getD, hm]
    rfl
  · have hk : ∀ b o, s0.heap.get? b = some o → s'.heap.get? b = some o := fun b o e =>
      hm.heap b o (fun hI => absurd (Heap.lt_size e) (by rw [List.mem_singleton.mp hI]; exact Nat.lt_irrefl _)) (Heap.get?_push_of_some _ e)
    rw [Moved.eq_with hm]
    refine ⟨.int ns.sum, H, I.kept (t' := s'.toks) hk, ⟨t', ?_⟩, q⟩
    rw [hlen, preSum_ns]
end
def valsI : List (Key × PyData) → Option (List Int)
  | [] => some []
  | (_, .int i) :: m => (valsI m).map (i :: ·)
  | _ => none
theorem KvR.valsI {B : Hp} : ∀ {l : List (Key × V)} {m : List (Key × PyData)} {ns : List Int}, KvR B l m → G.valsI m = some ns → l.map (·.2) = ns.map V.int
  | _, _, ns, .nil, h => by cases h; rfl
  | _, _, ns, .cons (d := d) (m := m) hd t, h => by
    cases hd with
    | int i =>
      obtain ⟨r, h1, h2⟩ := Option.map_eq_some_iff.mp (show (G.valsI m).map (i :: ·) = some ns from h)
      subst h2
      rw [List.map_cons, KvR.valsI t h1]
      rfl
    | _ => cases h
def fSumV (i : Nat) : FE := fun ρ => match ρ[i]? with
  | some (.ok m) => (valsI m).map fun ns => (.int ns.sum, ρ)
  | _ => none
theorem de_sumV {X : Cx} {px apos cpos pos p : Pos} {x : Str} (i : Nat) (hm : X.mg "sum" = none) (hN : X.N[i]? = some x := by rfl) (hv : Vis X.env.scope x := by first | exact Or.inl rfl | exact Or.inr (Or.inl rfl) | exact Or.inr (Or.inr rfl)) (hd : (x == ("__debug__" : Str)) = false := by decide)
    (hcd : (x == ("__classdict__" : Str)) = false := by decide) (hg : Gl X "sum" := by rfl) (hc : X.calm = true := by rfl)
    (hbase : attributeBase (.Name x px) "values" X.env (eval (.Name x px) X.env) = eval (.Name x px) X.env := by rfl) (hline : (apos.endLine == cpos.line) = true := by rfl)
    (he : starEach [.Call (.Attribute (.Name x px) "values" apos) [] [] cpos] X.env = (false, eval (.Call (.Attribute (.Name x px) "values" apos) [] [] cpos) X.env) :: starEach [] X.env := by rfl) (hpl : (backTo pos (starEach [] X.env)).any (·.1) = false := by rfl) :
    DE X (.Call (.Name "sum" p) [.Call (.Attribute (.Name x px) "values" apos) [] [] cpos] [] pos) (fSumV i) :=
  pe_imp (pe_callB (cr_sumVals hc) hg hm boot_sum (pa_cons (pe_vals (pe_var hN hv hd hcd) hbase hline) pa_nil he) (by decide) (by decide) he hpl) fun σ H Q ⟨Z, B, ρ, d, ρ', ok, e, q⟩ => by
  unfold fSumV at e
  split at e
  · rename_i m h
    obtain ⟨ns, e1, e2⟩ := Option.map_eq_some_iff.mp e
    cases e2
    obtain ⟨a, o, q1, q2, q3, q4, q5⟩ := ok.ow i _ h rfl
    cases o with
    | dK l =>
      refine ⟨.ref a, q1, a, l, rfl, .inl q2, fun r hr => ?_⟩
      have ne : a ≠ r := ne_of_none q2 hr
      refine ⟨r, a, l, ns, rfl, upd_same, .inl (by rw [upd_ne ne]; exact q2), KvR.valsI q5 e1, ?_⟩
      exact q B _ _ (Same.refl B) (ok.junk hr) (.int _)
    | _ => exact q5.elim
  · cases e
/-! ### for k in d -/
def kD : Key → PyData
  | .inl i => .int i
  | .inr x => .str x
def nolk (ρ : En) : Bool := ρ.all fun s => match s with
  | .lk _ => false
  | .lt _ => false
  | _ => true
def erB (B : Hp) (a : Addr) : Hp := fun b => if b = a then none else B b
theorem erB_self (B : Hp) (a : Addr) : erB B a a = none := if_pos rfl
theorem erB_ne {B : Hp} {a b : Addr} (h : b ≠ a) : erB B a b = B b := if_neg h
mutual
theorem dr_er {B : Hp} {a : Addr} {od : Obj} {u : HO} (hB : B a = some (.frz od u)) : ∀ (d : PyData) (v : V), Dr B v d → Dr (erB B a) v d
  | .none, _, h => by cases h; exact .non
  | .bool b, _, h => by cases h; exact .bl b
  | .int i, _, h => by cases h; exact .int i
  | .str x, _, h => by cases h; exact .str x
  | .list ds, _, h => by
    cases h with
    | lst hs ha => exact .lst (by rw [erB_ne (ne_of hs hB (fun z => nomatch z))]; exact hs) (drAll_er hB ds _ ha)
  | .tuple ds, _, h => by
    cases h with
    | tup hs ha => exact .tup (by rw [erB_ne (ne_of hs hB (fun z => nomatch z))]; exact hs) (drAll_er hB ds _ ha)
  | .dict _, _, h => by cases h
theorem drAll_er {B : Hp} {a : Addr} {od : Obj} {u : HO} (hB : B a = some (.frz od u)) : ∀ (ds : List PyData) (vs : List V), DrAll B vs ds → DrAll (erB B a) vs ds
  | [], _, h => by cases h; exact .nil
  | d :: ds, _, h => by
    cases h with
    | cons h1 h2 => exact .cons (dr_er hB d _ h1) (drAll_er hB ds _ h2)
end
theorem kvR_er {B : Hp} {a : Addr} {od : Obj} {u : HO} (hB : B a = some (.frz od u)) {κ : Type} : ∀ {l : List (κ × V)} {m : List (κ × PyData)}, KvR B l m → KvR (erB B a) l m
  | _, _, .nil => .nil
  | _, _, .cons h t => .cons (dr_er hB _ _ h) (kvR_er hB t)
theorem ownR_er {B : Hp} {a : Addr} {od : Obj} {u : HO} (hB : B a = some (.frz od u)) {o : HO} {s : Sl} (h : OwnR B o s) : OwnR (erB B a) o s := by
  cases s with
  | lk m => exact h.elim
  | lt m => exact h.elim
  | pi => exact h.elim
  | un => exact h.elim
  | ad v => exact h.elim
  | sh d => exact h.elim
  | ow xs => cases o <;> first | exact h.elim | exact drAll_er hB _ _ h
  | io xs => cases o <;> first | exact h.elim | exact drAll_er hB _ _ h
  | ok m => cases o <;> first | exact h.elim | exact kvR_er hB h
  | ot m => cases o <;> first | exact h.elim | exact kvR_er hB h
section
variable {Z : Zn} {B : Hp} {σ : L2.St} {H : Hp} {ρ : En} {i : Nat}
theorem EnvOk.unlock (ok : EnvOk Z B σ H ρ) {a : Addr} {od : Obj} {u : HO} (hB : B a = some (.frz od u)) (hz : Z.fr a = none) (nl : nolk ρ = true) : EnvOk Z (erB B a) σ (upd H a u) ρ := by
  have nla : ∀ (j : Nat) s, ρ[j]? = some s → (∀ m, s ≠ .lk m) ∧ ∀ m, s ≠ .lt m := fun j s e => by
    have := List.all_eq_true.mp nl _ (List.mem_of_getElem? e)
    refine ⟨fun m z => ?_, fun m z => ?_⟩ <;> (subst z; cases this)
  refine ⟨fun b o e => ?_, fun b o e => ?_, fun b o e => ?_, ok.len, fun j d e => ?_, fun j s e1 e2 => ?_, ok.io, fun j s e => ?_, ok.inj, ok.tb.z, fun b => ?_, (ok.tb.nt (a := a) (o := u) fun w z => by
    rw [ok.le _ _ hB] at z
    cases z
    trivial).s⟩
  · by_cases h : b = a
    · subst h
      rw [erB_self] at e
      cases e
    · rw [erB_ne h] at e
      rw [upd_ne h]
      exact ok.le b o e
  · rw [upd_ne (ne_of_none e hz)]
    exact ok.lz b o e
  · rw [erB_ne (ne_of_none e hz)]
    exact ok.dj b o e
  · obtain ⟨v, h1, h2⟩ := ok.sh j d e
    exact ⟨v, h1, dr_er hB _ _ h2⟩
  · obtain ⟨b, o, h1, h2, h3, h4, h5⟩ := ok.ow j s e1 e2
    have ne : b ≠ a := fun z => by
      subst z
      rw [hB] at h3
      cases h3
    exact ⟨b, o, h1, by rw [upd_ne ne]; exact h2, by rw [erB_ne ne]; exact h3, h4, ownR_er hB h5⟩
  · have := ok.ad j s e
    cases s with
    | lk m => exact ((nla j _ e).1 m rfl).elim
    | lt m => exact ((nla j _ e).2 m rfl).elim
    | ad v => exact this
    | pi => exact this
    | _ => trivial
  · by_cases h : b = a
    · rw [h, erB_self]
      rfl
    · rw [erB_ne h]
      exact ok.tb.b b
theorem EnvOk.lockD (ok : EnvOk Z B σ H ρ) {m : List (Key × PyData)} (h : ρ[i]? = some (.ok m)) : ∃ a l, σ[i]? = some (some (.ref a)) ∧ H a = some (.dK l) ∧ B a = none ∧ Z.fr a = none ∧ KvR B l m ∧
    ∀ od, Same B (upd B a (.frz od (.dK l))) ∧ EnvOk Z (upd B a (.frz od (.dK l))) σ (upd H a (.frz od (.dK l))) (ρ.set i (.lk m)) := by
  obtain ⟨a, o, q1, q2, q3, q4, q5⟩ := ok.ow i _ h rfl
  cases o with
  | dK l =>
    refine ⟨a, l, q1, q2, q3, q4, q5, fun od => ?_⟩
    have sb : Same B (upd B a (.frz od (.dK l))) := same_upd_new q3
    have hn : NotOwn σ (ρ.set i .un) a := fun j s e1 e2 e3 => by
      rcases getElem?_set_cases e1 with ⟨rfl, z2, z3⟩ | ⟨z1, z2⟩
      · subst z2
        cases e2
      · exact z1 (ok.inj j i s _ a z2 e2 h rfl e3 q1)
    have f1 := (ok.forget i).other (o := .frz od (.dK l)) q3 q4 hn (fun w z => by rw [q2] at z; cases z; trivial)
    have f2 := f1.freeze upd_same q3 q4 hn
    have f3 := EnvOk.setAd f2 i (s := .lk m) rfl (fun d z => nomatch z) (fun d z => nomatch z) ⟨a, od, l, q1, upd_same, KvR.mono sb q5⟩
    rw [List.set_set] at f3
    exact ⟨sb, f3⟩
  | _ => exact q5.elim
theorem wk_keys {B0 : Hp} {a : Addr} {od : Obj} {l : List (Key × V)} {m : List (Key × PyData)} (h : B0 a = some (.frz od (.dK l))) (hk : KvR B0 l m) : Wk (Itk a od l) B0 (m.map fun p => kD p.1) := fun Z B1 σ H ρ i s1 ok => by
  have hH : H a = some (.frz od (.dK l)) := ok.le _ _ (s1 _ _ h)
  have hl := KvR.length hk
  have hks := KvR.keys hk
  refine ⟨fun e => ⟨hH, by rw [List.length_map] at e; omega⟩, fun d e => ?_⟩
  have hi : i < m.length := by
    have := (List.getElem?_eq_some_iff.mp e).1
    rw [List.length_map] at this
    exact this
  refine ⟨⟨hH, by omega⟩, fun x H' ⟨e1, k, v, e2, e3⟩ => ?_⟩
  subst e1 e3
  have e4 : (l.map (·.1))[i]? = some k := by rw [List.getElem?_map, e2]; rfl
  rw [hks, List.getElem?_map] at e4
  obtain ⟨y, e5, e6⟩ := Option.map_eq_some_iff.mp e4
  rw [List.getElem?_map, e5] at e
  have e7 : kD y.1 = d := Option.some.inj e
  refine ⟨B1, Same.refl B1, ok, ?_⟩
  rw [← e7, e6]
  cases k with
  | inl j => exact .int j
  | inr x => exact .str x
end
def fForD (i : Nat) (g : FG) (F : FS) : FS := fun ρ => match ρ[i]? with
  | some (.ok m) => (forL g F (m.map fun p => kD p.1) (ρ.set i (.lk m))).bind fun o => match o with
    | .nx ρ' => if nolk (ρ'.set i .un) = true then some (.nx (ρ'.set i .un)) else none
    | _ => none
  | _ => none
theorem ds_forD {X : Cx} {tg : Expr} {body : List Stmt} {js : List Nat} {g : FG} {F : FS} {pos px : Pos} {x : Str} (i : Nat) (hg : DG X tg js g) (hb : DSs X body F) (hN : X.N[i]? = some x := by rfl) (hv : Vis X.env.scope x := by first | exact Or.inl rfl | exact Or.inr (Or.inl rfl) | exact Or.inr (Or.inr rfl)) (hd : (x == ("__debug__" : Str)) = false := by decide)
    (hcd : (x == ("__classdict__" : Str)) = false := by decide) (hc : X.calm = true := by rfl) (hp : PassesOwn (model X.prog X.w) X.A X.env X.xe := by exact PassesOwn.never)
    (hs : ∀ y, foldedSetIterable (.Name x px) X.env y = pure y := by intro _; rfl) : DS X (.For tg (.Name x px) body [] pos) (fForD i g F) :=
  ps_imp (ps_lock (ps_for hp hc (pi_keys (pe_var hN hv hd hcd)) hg hb hs)) fun D σ H ⟨Z, B, ρ, o, ok, q0, q⟩ => by
  unfold fForD at q0
  split at q0
  · rename_i m h
    obtain ⟨o1, e1, e2⟩ := Option.bind_eq_some_iff.mp q0
    split at e2
    · rename_i ρ'
      split at e2
      · rename_i nl
        cases e2
        obtain ⟨a, l, q1, q2, q3, q4, q5, q6⟩ := ok.lockD h
        refine ⟨a, .dK l, q2, trivial, fun od => ?_⟩
        obtain ⟨sb, ok1⟩ := q6 od
        have hB0 : (upd B a (HO.frz od (.dK l))) a = some (.frz od (.dK l)) := upd_same
        generalize upd B a (HO.frz od (.dK l)) = B0 at *
        have hk0 := KvR.mono sb q5
        have wk := wk_keys hB0 hk0
        refine ⟨.ref a, q1, a, od, rfl, .inl ⟨l, upd_same, ?_⟩⟩
        refine ⟨fun k mm σ2 H2 => mm = (m.map fun p => kD p.1).length - k ∧ k ≤ (m.map fun p => kD p.1).length ∧ ∃ B2 ρ2, Same B0 B2 ∧ EnvOk Z B2 σ2 H2 ρ2 ∧ forL g F ((m.map fun p => kD p.1).drop k) ρ2 = some (.nx ρ'), ⟨_, rfl, Nat.zero_le _, B0, _, Same.refl B0, ok1, by rw [List.drop_zero]; exact e1⟩, fun k mm σ2 H2 hW => ?_⟩
        obtain ⟨rfl, hk, B2, ρ2, s2, ok2, hf⟩ := hW
        have fin : ∀ {B3 : Hp} {σ3 : L2.St} {H3 : Hp}, Same B0 B3 → EnvOk Z B3 σ3 H3 ρ' → H3 a = some (.frz od (.dK l)) ∧ D.nx σ3 (upd H3 a (.dK l)) := fun {B3 σ3 H3} s3 ok3 => by
          have hB3 := s3 _ _ hB0
          refine ⟨ok3.le _ _ hB3, ?_⟩
          have hu : EnvOk Z (erB B3 a) σ3 (upd H3 a (.dK l)) (ρ'.set i .un) := EnvOk.unlock (ok3.forget i) hB3 q4 nl
          refine q (erB B3 a) (fun b u e => ?_) σ3 _ hu
          rw [erB_ne (ne_of_none e q3)]
          exact s3 _ _ (sb _ _ e)
        by_cases hlt : k < (m.map fun p => kD p.1).length
        · obtain ⟨d, h1, h2⟩ := drop_at hlt
          rw [h2] at hf
          obtain ⟨ρ3, e3, e4⟩ := Option.bind_eq_some_iff.mp hf
          obtain ⟨o3, e5, e6⟩ := Option.bind_eq_some_iff.mp e4
          obtain ⟨go, yl⟩ := (wk Z B2 σ2 H2 ρ2 k s2 ok2).2 d h1
          refine .inr ⟨go, fun σ' H' => ∃ B4 ρ4, Same B0 B4 ∧ EnvOk Z B4 σ' H' ρ4 ∧ forL g F ((m.map fun p => kD p.1).drop (k + 1)) ρ4 = some (.nx ρ'), fun σ' H' hN' => ⟨_, by omega, rfl, hlt, hN'⟩, fun y H' hy => ?_⟩
          obtain ⟨B3, s3, ok3, dx⟩ := yl y H' hy
          refine ⟨Z, B3, ρ2, d, ρ3, ok3, dx, e3, fun σ3 ok4 _ => ⟨Z, B3, ρ3, o3, ok4, e5, fun B4 s4 => ?_⟩⟩
          cases o3 with
          | nx ρ4 => exact fun σ5 H5 ok5 => ⟨B4, ρ4, s2.trans (s3.trans s4), ok5, e6⟩
          | ct ρ4 => exact fun σ5 H5 ok5 => ⟨B4, ρ4, s2.trans (s3.trans s4), ok5, e6⟩
          | bk ρ4 =>
            cases e6
            exact fun σ5 H5 ok5 => fin (s2.trans (s3.trans s4)) ok5
          | rt s ρ4 => cases e6
        · have e : k = (m.map fun p => kD p.1).length := by omega
          rw [e, List.drop_length] at hf
          cases hf
          exact .inl ⟨(wk Z B2 σ2 H2 _ k s2 ok2).1 e, fin s2 ok2⟩
      · cases e2
    · cases e2
  · cases q0
/-! ### name = {k: v for ..} -/
section
variable {X : Cx}
theorem ps_asgDc {i : Nat} {y : Str} {py : Pos} {kx vx tg it : Expr} {ifs : List Expr} {scope : Scope} {own : List (Str × Nat)} {pos spos : Pos} {wi : TI} {g : TG} {tt : TT} {tk tv : TE} (hc : X.calm = true) (hN : X.N.Nodup) (hy : X.N[i]? = some y) (hyl : X.env.scope.names.lookup y = some .local)
    (hsw : swapsWith (.DictComp kx vx [⟨tg, it, ifs, 0⟩] scope pos) (some (.Name y py)) spos.line X.env = pure true) (hi : PI X tg it wi) (ok : BlkOk X.N X.env.scope scope own)
    (hg : ∀ (s : Shared) (H : Hp) (C : Addr) (cl : List (Str × Addr)) (fp : List Addr), PG (X.blk s H scope (compEnvC scope cl C X.env) fp) tg g)
    (ht : ∀ (s : Shared) (H : Hp) (C : Addr) (cl : List (Str × Addr)) (fp : List Addr), PTs (X.blk s H scope (compEnvC scope cl C X.env) fp) ifs tt)
    (hk : ∀ (s : Shared) (H : Hp) (C : Addr) (cl : List (Str × Addr)) (fp : List Addr), PE (X.blk s H scope (compEnvC scope cl C X.env) fp) kx tk)
    (he : ∀ (s : Shared) (H : Hp) (C : Addr) (cl : List (Str × Addr)) (fp : List Addr), PE (X.blk s H scope (compEnvC scope cl C X.env) fp) vx tv)
    (hs : ∀ x, foldedSetIterable it X.env x = pure x := by intro _; rfl) : PS X (.Assign [.Name y py] (.DictComp kx vx [⟨tg, it, ifs, 0⟩] scope pos) spos) (tAsg (tDc wi g tt tk tv (own.map (·.2))) (gName i)) := by
  refine ⟨fun pins s0 σ H D I h => ?_⟩
  rw [exec_Assign_Name_used _ _ _ _ hsw]
  refine wpAny_bind (wpAny_standAt (wpAny_bind ?_))
  show wpAny _ X.A (do let _ ← comprehension (.DictComp kx vx [⟨tg, it, ifs, 0⟩] scope pos) scope X.env (firstIterPos [⟨tg, it, ifs, 0⟩] pos) newDict false (eval it X.env) (some (assign (.Name y py) X.env))) _ _ s0
  have h' : tDc wi g tt tk tv (own.map (·.2)) σ H (fun x H1 => gName i x σ H1 D.nx) := h
  refine wpAny_bind (thn (dc_core (Qf := fun _ s' => SP X pins D .next s') hc hN I hi ok hg ht hk he hs h' fun L C s' m H' I' q hn f => ?_) fun _ s' z => wpAny_pure (wpAny_pure z))
  show wpAny _ _ (assign (.Name y py) X.env (.ref L)) _ _ _
  refine wpAny_assign_Name (store_ok2 (v := V.ref L) I' hN hy (.inl hyl) rfl (fun s2 I2 ⟨c, sb, hc'⟩ => ?_) (.inr hyl))
  obtain ⟨f0, f1, f2, f3, f4, f5⟩ := f
  have ne : C ≠ c := by
    rcases hc' with z | z
    · rw [z]
      exact f1
    · exact fun e => f4 y c z e.symm
  exact ⟨m, hn.sameBut sb ne, fun h3 sb3 => ⟨_, H', I2.turned (t' := s2.toks) (fun b o hb e => (sb3.2 b hb).trans e) f0 f1 f3 f4 f5, q⟩⟩
theorem sw_trueD {kx vx : Expr} {gs : List Comprehension} {scope : Scope} {pos py : Pos} {y : Str} {l : Nat} {env : Env} (hk : env.scope.kind = .function) (hy : env.scope.names.lookup y = some .local) (hl : (py.line == pos.line) = true)
    (ha : (scope.names.any fun (n, k) => n == y && (k == .local || k == .cell)) = false) : swapsWith (.DictComp kx vx gs scope pos) (some (.Name y py)) l env = pure true := by
  have k1 : env.kindOf y = some .local := hy
  have k2 : env.blockKind = .function := by
    unfold Env.blockKind
    rw [hk]
    rfl
  unfold swapsWith
  simp only [k2, k1, ha, Expr.pos, hl]
  rfl
theorem ds_setDc (i : Nat) {y : Str} {py : Pos} {kx vx tg it : Expr} {ifs : List Expr} {scope : Scope} {own : List (Str × Nat)} {pos spos : Pos} {fi : FI} {g : FG} {tt : FT} {tk tv : FE} {js vs : List Nat} (hN : X.N.Nodup)
    (hsw : swapsWith (.DictComp kx vx [⟨tg, it, ifs, 0⟩] scope pos) (some (.Name y py)) spos.line X.env = pure true) (hi : DI X tg it fi) (ok : BlkOk X.N X.env.scope scope own)
    (hg : ∀ (s : Shared) (H : Hp) (C : Addr) (cl : List (Str × Addr)) (fp : List Addr), DG (X.blk s H scope (compEnvC scope cl C X.env) fp) tg js g)
    (ht : ∀ (s : Shared) (H : Hp) (C : Addr) (cl : List (Str × Addr)) (fp : List Addr), DTs (X.blk s H scope (compEnvC scope cl C X.env) fp) ifs tt)
    (hk : ∀ (s : Shared) (H : Hp) (C : Addr) (cl : List (Str × Addr)) (fp : List Addr), DE (X.blk s H scope (compEnvC scope cl C X.env) fp) kx tk)
    (he : ∀ (s : Shared) (H : Hp) (C : Addr) (cl : List (Str × Addr)) (fp : List Addr), DE (X.blk s H scope (compEnvC scope cl C X.env) fp) vx tv)
    (hy : X.N[i]? = some y := by rfl) (hyl : X.env.scope.names.lookup y = some .local := by rfl)
    (hc : X.calm = true := by rfl) (hv : own.map (·.2) = vs := by rfl) (hj : ∀ j ∈ js, j ∈ vs := by decide) (hs : ∀ x, foldedSetIterable it X.env x = pure x := by intro _; rfl) :
    DS X (.Assign [.Name y py] (.DictComp kx vx [⟨tg, it, ifs, 0⟩] scope pos) spos) (fSet i (fDc vs fi g tt tk tv)) := by
  subst hv
  refine ps_imp (ps_asgDc hc hN hy hyl hsw hi ok hg ht hk he hs) fun D σ H ⟨Z, B, ρ, o, ok, e, q⟩ => ?_
  unfold fSet at e
  obtain ⟨⟨s, ρ1⟩, e1, e2⟩ := Option.map_eq_some_iff.mp e
  cases e2
  exact tDc_of hj σ H _ ⟨Z, B, ρ, s, ρ1, ok, e1, fun B1 H1 v s1 ok1 r1 => q B1 s1 _ H1 (ok1.setR i r1)⟩
end

/-! GLamA: {x: True for x in list}, the keys tuples. -/
theorem kt_is {P : Program} {w : World} {H : Hp} {h : Heap} {m : List (List Key × V)} {l : List (List Key × Addr × Value)} (ok : HOk P w H h) (r : KT H m l) : ∀ x ∈ l, (tupleKind (mixKind P w)).is h x.1 x.2.1 := by
  induction r with
  | nil => intro x hx; cases hx
  | cons z t ih =>
    intro x hx
    rcases List.mem_cons.mp hx with e | hx
    · rw [e]
      exact key_of ok (by rw [← z.1]; exact z.2.1)
    · exact ih x hx
/-- a list of tuples by their keys -/
abbrev TKs (H : Hp) : List V → List (List Key) → Prop := Paired fun v k => ∃ t, v = V.ref t ∧ H t = some (.tup (k.map kV))
theorem TKs.at_ {H : Hp} {vs : List V} {ks : List (List Key)} (p : TKs H vs ks) : ∀ {us : List Value}, Vals vs us → ∀ {i : Nat} {u : Value}, us[i]? = some u → ∃ k t, ks[i]? = some k ∧ u = .ref t ∧ H t = some (.tup (k.map kV)) := by
  induction p with
  | nil => intro us r i u e; cases r; simp at e
  | @cons v k vs ks h t ih =>
    intro us r i u e
    cases r with
    | cons r1 r2 =>
      cases i with
      | zero =>
        obtain ⟨t, rfl, ht⟩ := h
        simp at e
        subst e
        exact ⟨k, t, rfl, r1, ht⟩
      | succ i =>
        obtain ⟨k', t', e1, e2, e3⟩ := ih r2 (by simpa using e)
        exact ⟨k', t', by simpa using e1, e2, e3⟩
def dcKeys (ks : List (List Key)) : List (List Key × V) := ks.foldl (fun m k => putK m k (.bl true)) []
theorem dcKeys_snoc (ks : List (List Key)) (k : List Key) : dcKeys (ks ++ [k]) = putK (dcKeys ks) k (.bl true) := by
  unfold dcKeys
  rw [List.foldl_append]
  rfl
theorem dcKeys_len (ks : List (List Key)) : (dcKeys ks).length ≤ ks.length := by
  suffices h : ∀ (l : List (List Key)) (m : List (List Key × V)), (l.foldl (fun m k => putK m k (.bl true)) m).length ≤ m.length + l.length by
    have := h ks []
    simpa [dcKeys] using this
  intro l
  induction l with
  | nil => intro m; simp
  | cons k l ih =>
    intro m
    have h1 := ih (putK m k (.bl true))
    have h2 := length_putK m k (.bl true)
    simp only [List.foldl_cons, List.length_cons]
    omega
def pkK (p : Int × Int) : List Key := [Sum.inl p.1, Sum.inl p.2]
theorem pkK_V (p : Int × Int) : (pkK p).map kV = [V.int p.1, V.int p.2] := rfl
abbrev IsPr (M : Hp) (v : Value) (p : Int × Int) : Prop := ∃ t, v = .ref t ∧ M t = some (.tup [.int p.1, .int p.2])
abbrev IsPrV (M : Hp) (v : V) (p : Int × Int) : Prop := ∃ t, v = .ref t ∧ M t = some (.tup [.int p.1, .int p.2])
/-- each pair once, as they came -/
def nubP (ps : List (Int × Int)) : List (Int × Int) := ps.foldl (fun m p => if p ∈ m then m else m ++ [p]) []
theorem nubP_snoc (ps : List (Int × Int)) (p : Int × Int) : nubP (ps ++ [p]) = if p ∈ nubP ps then nubP ps else nubP ps ++ [p] := by
  unfold nubP
  rw [List.foldl_append]
  rfl
theorem nubP_len (ps : List (Int × Int)) : (nubP ps).length ≤ ps.length := by
  suffices h : ∀ (l m : List (Int × Int)), (l.foldl (fun m p => if p ∈ m then m else m ++ [p]) m).length ≤ m.length + l.length by
    have := h ps []
    simpa [nubP] using this
  intro l
  induction l with
  | nil => intro m; simp
  | cons k l ih =>
    intro m
    rw [List.foldl_cons, List.length_cons]
    split
    · have := ih m
      omega
    · have := ih (m ++ [k])
      rw [List.length_append] at this
      have e : [k].length = 1 := rfl
      omega
theorem pkK_inj {p q : Int × Int} (h : pkK p = pkK q) : p = q := by
  unfold pkK at h
  simp only [List.cons.injEq, Sum.inl.injEq] at h
  exact Prod.ext h.1 h.2.1
theorem putK_keys {κ : Type} [DecidableEq κ] (m : List (κ × V)) (k : κ) (v : V) : (putK m k v).map (·.1) = if k ∈ m.map (·.1) then m.map (·.1) else m.map (·.1) ++ [k] := by
  unfold putK
  by_cases h : k ∈ m.map (·.1)
  · have h2 : (m.any fun kv => decide (kv.1 = k)) = true := by
      obtain ⟨x, hx, e⟩ := List.mem_map.mp h
      exact List.any_eq_true.mpr ⟨x, hx, decide_eq_true e⟩
    rw [if_pos h2, if_pos h, List.map_map]
    apply List.map_congr_left
    intro x _
    show (if x.1 = k then (x.1, v) else x).1 = x.1
    split <;> rfl
  · have h2 : ¬ (m.any fun kv => decide (kv.1 = k)) = true := fun z => by
      obtain ⟨x, hx, e⟩ := List.any_eq_true.mp z
      exact h (List.mem_map.mpr ⟨x, hx, of_decide_eq_true e⟩)
    rw [if_neg h2, if_neg h, List.map_append]
    rfl
theorem dcKeys_pairs (ps : List (Int × Int)) : (dcKeys (ps.map pkK)).map (·.1) = (nubP ps).map pkK := by
  suffices h : ∀ (l : List (Int × Int)) (m : List (List Key × V)) (n : List (Int × Int)), m.map (·.1) = n.map pkK → ((l.map pkK).foldl (fun m k => putK m k (.bl true)) m).map (·.1) = (l.foldl (fun m p => if p ∈ m then m else m ++ [p]) n).map pkK from h ps [] [] rfl
  intro l
  induction l with
  | nil => intro m n h; exact h
  | cons p l ih =>
    intro m n h
    rw [List.map_cons, List.foldl_cons, List.foldl_cons]
    refine ih _ _ ?_
    rw [putK_keys, h]
    have hm : pkK p ∈ n.map pkK ↔ p ∈ n := ⟨fun z => by
      obtain ⟨q, hq, e⟩ := List.mem_map.mp z
      rw [← pkK_inj e]
      exact hq, fun z => List.mem_map.mpr ⟨p, z, rfl⟩⟩
    by_cases hp : p ∈ n
    · rw [if_pos hp, if_pos (hm.mpr hp)]
    · rw [if_neg hp, if_neg (fun z => hp (hm.mp z)), List.map_append]
      rfl
/-- a dict whose keys are these pairs, each key's object known to M -/
def DKey (M : Hp) (D : Addr) (ps : List (Int × Int)) : HO := .ext fun h => ∃ es ep, h.DictRaw D es ep ∧ (D == sysModules) = false ∧ es.size = ps.length ∧ ∀ (i : Nat) (p : Int × Int), ps[i]? = some p → ∃ hi : i < es.size, IsPr M es[i].key p
/-- the keys' objects -/
def KM (M : Hp) (l : List (List Key × Addr × Value)) : Prop := ∀ x ∈ l, M x.2.1 = some (.tup (x.1.map kV))
theorem KM.put {M : Hp} {l : List (List Key × Addr × Value)} (h : KM M l) {k : List Key} {a : Addr} {v : Value} (ha : M a = some (.tup (k.map kV))) : KM M (storedH l k a v) := by
  intro x hx
  unfold storedH at hx
  split at hx
  · obtain ⟨y, hy, e⟩ := List.mem_map.mp hx
    have e1 : x.1 = y.1 ∧ x.2.1 = y.2.1 := by
      rw [← e]
      unfold putAt
      split <;> exact ⟨rfl, rfl⟩
    rw [e1.1, e1.2]
    exact h y hy
  · rcases List.mem_append.mp hx with z | z
    · exact h x z
    · rw [List.mem_singleton.mp z]
      exact ha
theorem kt_keysEq {H : Hp} {m : List (List Key × V)} {l : List (List Key × Addr × Value)} (r : KT H m l) : m.map (·.1) = l.map (·.1) := by
  induction r with
  | nil => rfl
  | cons h t ih => rw [List.map_cons, List.map_cons, ih, h.1]
def tDcT (ti : TE) : TE := fun σ H Q => ti σ H fun v H1 => ∃ (a : Addr) (vs : List V) (ps : List (Int × Int)) (M : Hp), v = .ref a ∧ H1 a = some (.lst vs) ∧ Same M H1 ∧ TKs M vs (ps.map pkK) ∧ ps.length ≤ 16000000 ∧ ∀ D, H1 D = none → Q (.ref D) (upd H1 D (DKey M D (nubP ps)))
theorem pe_dcT {X : Cx} {x : Str} {iter : Expr} {ti : TE} {scope : Scope} {p1 p2 p3 pos : Pos} {j : Nat} (hu : X.A.units + 1 < cLine) (hit : PE X iter ti) (hc : X.calm = true := by rfl) (hkind : scope.kind = .function := by rfl) (hloc : ∀ y ∈ scope.names, y.2 = .local := by decide)
    (hx : scope.names.lookup x = some .local := by rfl) (hnames : ∀ y ∈ scope.names, y.2 = .local → scope.names.lookup y.1 = some .local := by decide) (hd : (x == ("__debug__" : Str)) = false := by decide) (hs : ∀ x, foldedSetIterable iter X.env x = pure x := by intro _; rfl) :
    PE X (.DictComp (.Name x p1) (.Constant (.bool true) j p2) [⟨.Name x p3, iter, [], 0⟩] scope pos) (tDcT ti) := by
  refine ⟨fun pins s0 σ H Q I h => ?_⟩
  have nofree : ∀ y ∈ scope.names, y.2 = .free → ∃ c, X.env.cells.lookup y.1 = some c := fun y hy e => by
    rw [hloc y hy] at e
    cases e
  refine DictComp_goes (closure_ok nofree) (fun y hy e => by rw [hloc y hy] at e; cases e) hkind hnames (thn (hit.run pins s0 σ H _ I h) fun xv s1 ⟨v, H1, I1, rv, a, vs, ps, M, ev, hl, sM, hv, hz', q⟩ => ?_) hs
  subst ev
  generalize hks : ps.map pkK = ks at hv
  have hz : ks.length ≤ 16000000 := by
    rw [← hks, List.length_map]
    exact hz'
  obtain rfl : xv = .ref a := rv
  obtain ⟨its, rvs, hl', hlen⟩ := I1.list (SqL.of hl)
  have hn : its.length = ks.length := by
    rw [← rvs.length]
    exact hv.length
  have hlt : a < s1.heap.objs.size := by
    obtain ⟨o, ho, _⟩ := hl'.isList
    exact Heap.lt_size ho
  refine wpAny_pyIter_list hl'.isList ?_
  refine ⟨s1.heap.objs.size, _, _, _, _, _, rfl, Goes.list (I1.ok.hd hc) _ a (Nat.ne_of_lt hlt) its.toArray, ⟨⟨_, Heap.get?_push_size _ rfl, rfl, rfl⟩, hl'.isList.at fun o e => Heap.get?_push_of_some _ e⟩, fun D C s₃ hB hD => ?_⟩
  obtain ⟨⟨h₃, tk₃, rfl⟩, old, nD, nC, hDC, hnm⟩ := hB
  have nD' : s1.heap.objs.size + 1 ≤ D := by
    have h1 := nD
    dsimp only at h1
    rw [size_push'] at h1
    exact h1
  have nC' : s1.heap.objs.size + 1 ≤ C := by
    have h1 := nC
    dsimp only at h1
    rw [size_push'] at h1
    exact h1
  have kinds : (compEnvC scope (cloFrom X.env.cells scope.names []) C X.env).kindOf x = some .local := lookup_relabel_local hx
  have hp : ((compEnvC scope (cloFrom X.env.cells scope.names []) C X.env).scope.kind == .class || ((compEnvC scope (cloFrom X.env.cells scope.names []) C X.env).scope.kind == .module && (compEnvC scope (cloFrom X.env.cells scope.names []) C X.env).locals != (compEnvC scope (cloFrom X.env.cells scope.names []) C X.env).globals)) = false := by
    show (scope.kind == .class || (scope.kind == .module && _)) = false
    rw [hkind]
    rfl
  refine ⟨fun i t => ∃ h' tk m l, t = { s1 with heap := h', toks := tk } ∧ h'.Ns C m ∧ (∀ b o, s1.heap.get? b = some o → h'.get? b = some o) ∧ KT H1 (dcKeys (ks.take i)) l ∧ h'.DictOfH (tupleKind (mixKind X.prog X.w)) D l ∧ KM M l, ?_, ?_, ?_, ?_⟩
  · refine ⟨h₃, tk₃, _, [], rfl, hnm, fun b o e => old b o (Heap.get?_push_of_some _ e), ?_, ⟨_, #[], 0, hD, ⟨rfl, rfl, rfl⟩, rfl, rfl, (fun x hx => nomatch hx), List.nodup_nil⟩, fun x hx => nomatch hx⟩
    rw [List.take_zero]
    exact .nil
  · rintro i t h' tk ⟨h₄, tk₄, m, l, rfl, n₄, k₄, r₄, ⟨o, es, ep, ho, h2, h3, h4, _, h6⟩, km⟩ hk' _
    have nI : ∀ b : Addr, b ≠ s1.heap.objs.size → b ∉ [s1.heap.objs.size] := fun b hb z => hb (List.mem_singleton.mp z)
    have kk : ∀ b o, s1.heap.get? b = some o → h'.get? b = some o := fun b o e => hk' b o (nI b (Nat.ne_of_lt (Heap.lt_size e))) (k₄ b o e)
    exact ⟨h', tk, m, l, rfl, n₄.at' fun o e => hk' C o (nI C (Nat.ne_of_gt nC')) e, kk, r₄, ⟨o, es, ep, hk' D o (nI D (Nat.ne_of_gt nD')) ho, h2, h3, h4, kt_is (I1.hok.kept kk) r₄, h6⟩, km⟩
  · rintro i v t hi hY st ⟨h₄, tk₄, m, l, rfl, n₄, k₄, r₄, d₄, km⟩
    obtain ⟨k, tt, ek, rfl, htM⟩ := hv.at_ rvs (i := i) (u := v) (by simpa using hY)
    have htt := sM _ _ htM
    refine wpAny_assign_Name (wpAny_storeName_local kinds n₄ (fun h₅ n₅ s₅ => ?_) hp)
    refine wpAny_tests_nil ?_
    rw [if_pos rfl]
    have hCl : ∀ b, b < s1.heap.objs.size + 1 → b ≠ C := fun b hb => by omega
    have k₅ : ∀ b o, s1.heap.get? b = some o → h₅.get? b = some o := fun b o e => s₅.extBut b o (hCl b (Nat.lt_succ_of_lt (Heap.lt_size e))) (k₄ b o e)
    refine ldVarK n₅ (v := .ref tt) (by rw [if_pos rfl]) ?_ hkind kinds hd
    refine wpAny_Constant_bool ?_
    obtain ⟨o, es, ep, ho, h2, h3, h4, _, h6⟩ := d₄
    have ok5 : HOk X.prog X.w H1 h₅ := I1.hok.kept k₅
    have d₅ : h₅.DictOfH (tupleKind (mixKind X.prog X.w)) D l := ⟨o, es, ep, s₅.extBut D o hDC ho, h2, h3, h4, kt_is ok5 r₄, h6⟩
    have hll : l.length ≤ i := by
      rw [← r₄.length]
      refine Nat.le_trans (dcKeys_len _) ?_
      rw [List.length_take]
      exact Nat.min_le_left _ _
    have hi' : i < its.length := by simpa using hi
    refine wpAny_dictSet_heap (hsz := by rw [sizeLine_eq]; omega) (show X.A.units < cLine by omega) (key_of ok5 htt) d₅ fun h₆ d₆ s₆ => ?_
    have hDl : ∀ b, b < s1.heap.objs.size + 1 → b ≠ D := fun b hb => by omega
    have k₆ : ∀ b o, s1.heap.get? b = some o → h₆.get? b = some o := fun b o e => s₆.extBut b o (hDl b (Nat.lt_succ_of_lt (Heap.lt_size e))) (k₅ b o e)
    refine ⟨⟨h₆, _, _, _, rfl, n₅.sameBut s₆ hDC.symm, k₆, ?_, d₆, km.put htM⟩, ?_⟩
    · have e : ks.take (i + 1) = ks.take i ++ [k] := by rw [List.take_add_one, ek]; rfl
      rw [e, dcKeys_snoc]
      exact r₄.put k htt rfl
    · obtain ⟨z1, z2⟩ := st
      have up : ∀ b o, b < s1.heap.objs.size + 1 → h₄.get? b = some o → h₆.get? b = some o := fun b o hb e => s₆.extBut b o (hDl b hb) (s₅.extBut b o (hCl b hb) e)
      exact ⟨z1.at fun o e => up _ o (Nat.lt_succ_self _) e, z2.at fun o e => up _ o (Nat.lt_succ_of_lt hlt) e⟩
  · rintro t ⟨h₄, tk₄, m, l, rfl, n₄, k₄, r₄, ⟨o, es, ep, ho, h2, h3, h4, _, h6⟩, km⟩
    refine ⟨m, n₄, fun h' hs' => ?_⟩
    have hlD : s1.heap.objs.size ≤ D := Nat.le_of_succ_le nD'
    have kk : ∀ b o, s1.heap.get? b = some o → h'.get? b = some o := fun b o e => hs'.extBut b o (Nat.ne_of_lt (Nat.lt_of_lt_of_le (Heap.lt_size e) (Nat.le_of_succ_le nC'))) (k₄ b o e)
    have ek : ks.take its.toArray.size = ks := List.take_of_length_le (by rw [List.size_toArray]; omega)
    rw [ek, ← hks] at r₄
    have hnD : H1 D = none := I1.hok.fresh hlD
    have hky : l.map (·.1) = (nubP ps).map pkK := (kt_keysEq r₄).symm.trans (dcKeys_pairs ps)
    have hoD : h'.get? D = some o := hs'.extBut D o hDC ho
    refine ⟨.ref D, upd H1 D (DKey M D (nubP ps)), I1.laid (t' := tk₄) kk hlD ⟨⟨es, ep, ⟨o, hoD, h2, h3⟩, ?_, ?_, fun i p hp => ?_⟩, ⟨o, hoD⟩, fun h1 h2 ⟨es, ep, ⟨o, g1, g2⟩, g3⟩ st => ⟨es, ep, ⟨o, st _ g1, g2⟩, g3⟩⟩, rfl, q D hnD⟩
    · exact beq_eq_false_iff_ne.mpr (Nat.ne_of_gt (Nat.lt_of_lt_of_le I1.big hlD))
    · have e1 := congrArg List.length h4
      have e2 := congrArg List.length hky
      rw [Array.length_toList, List.length_map] at e1
      rw [List.length_map, List.length_map] at e2
      omega
    · have e1 : (l.map (·.1))[i]? = some (pkK p) := by rw [hky, List.getElem?_map, hp]; rfl
      rw [List.getElem?_map] at e1
      obtain ⟨x, hx1, hx2⟩ := Option.map_eq_some_iff.mp e1
      have e3 : es.toList[i]? = some (entryOfKey (tupleKind (mixKind X.prog X.w)) x) := by rw [h4, List.getElem?_map, hx1]; rfl
      have hi : i < es.size := by
        have := (List.getElem?_eq_some_iff.mp e3).1
        rwa [Array.length_toList] at this
      refine ⟨hi, x.2.1, ?_, ?_⟩
      · have e4 : es.toList[i]? = some es[i] := by simp
        rw [e4] at e3
        rw [Option.some.inj e3]
        rfl
      · have := km x (List.mem_of_getElem? hx1)
        rw [hx2, pkK_V] at this
        exact this

/-! GLamB: a lambda of one parameter by which a sort goes: (abs(x[1]), x). -/
def kyD (p : Int × Int) : PyData := .tuple [.int (if p.2 < 0 then -p.2 else p.2), .tuple [.int p.1, .int p.2]]
def absBody (x : Str) (p1 p2 p3 p4 p5 p6 p7 : Pos) (j k : Nat) : Expr := .Tuple [.Call (.Name "abs" p1) [.Subscript (.Name x p2) (.Constant (.int 1) j p3) p4] [] p5, .Name x p6] k p7
/-- the scope of such a lambda -/
structure LamOne (x : Str) (scope : Scope) : Prop where
  kind : scope.kind = .function
  co : scope.isCoroutine = false
  gen : scope.isGenerator = false
  nocell : ∀ y ∈ scope.names, y.2 ≠ .cell
  nofree : ∀ y ∈ scope.names, y.2 ≠ .free
  loc : scope.names.lookup x = some .local
  abs : scope.names.lookup ("abs" : Str) = some .globalImplicit
  dbg : (x == ("__debug__" : Str)) = false
section
variable {X : Cx} {pins : List (Addr × Obj)} {σ : L2.St} {H : Hp} {s : Shared}
theorem lam_turn {f c' t : Addr} {x q : Str} {pm ctv : Value} {params : Arguments} {scope : Scope} {cl : List (Str × Addr)} {a z : Int} {p1 p2 p3 p4 p5 p6 p7 : Pos} {j k : Nat} (I : Inv X pins σ H s) (L : LamOne x scope)
    (hf : s.heap.get? f = some (PySem.W.kla_obj "<lambda>" q params (absBody x p1 p2 p3 p4 p5 p6 p7 j k) scope cl pm c' ctv)) (hc : H c' = some (LamX.CodeO c' q)) (ht : H t = some (.tup [.int a, .int z])) (hm : X.mg "abs" = none) (hdp : X.A.depth < recursionLimit)
    (hbind : ∀ v, bindArgs (PySem.W.kla_fn "<lambda>" q params (absBody x p1 p2 p3 p4 p5 p6 p7 j k) scope cl pm (.ref c') ctv) ⟨[v], []⟩ = pure [(x, v)])
    (h : Heap) (tk : Nat) (kp : ∀ b o, s.heap.get? b = some o → h.get? b = some o) :
    wpAny (model X.prog X.w) X.A.in1.in1 (call (.ref f) [.ref t]) (PySem.W.KeyPure (kyD (a, z)) { s with heap := h, toks := tk }) (fun _ _ => False) { s with heap := h, toks := tk } := by
  have I1 : Inv X pins σ H { s with heap := h, toks := tk } := I.kept kp
  obtain ⟨⟨oc, vs, tq, hoc, hdc, hvc⟩, _, _⟩ := I1.hok c' _ hc
  obtain ⟨_, its, rv, itup⟩ := (show ObjOk X.prog X.w H h t (.tup [.int a, .int z]) from I1.hok t _ ht)
  obtain ⟨w1, w2, rfl, ⟨t1, e1⟩, ⟨t2, e2⟩⟩ := vals2 rv
  subst e1 e2
  refine wpAny_call (PySem.W.kla_callFunE (show X.A.in1.in1.depth < recursionLimit from hdp) (kp _ _ hf) rfl L.co L.gen rfl ⟨c', oc, vs, tq, rfl, hoc, hdc, hvc⟩ ?_)
  rw [hbind]
  refine wpAny_pure (wpAny_newFunctionEnv L.nocell (fun y hy => by rw [List.mem_singleton.mp hy]; exact L.loc) (fun h₁ hns hsb => ⟨I1.nolimit.fresh _ hsb, ?_⟩) L.kind)
  have k1 : ∀ b o, h.get? b = some o → h₁.get? b = some o := fun b o e => hsb.extBut b o (Nat.ne_of_lt (Heap.lt_size e)) (Heap.get?_push_of_some _ e)
  have hxv : (fun y => ([(x, Value.ref t)] : List (Str × Value)).reverse.lookup y) x = some (.ref t) := by
    simp
  generalize henv : newEnv scope h.objs.size mainGlobals cl (q ++ ".<locals>.") (some f) (.ref c') none builtinsNs = env
  have eL : env.locals = h.objs.size := by rw [← henv]; rfl
  have eG : env.globals = mainGlobals := by rw [← henv]; rfl
  have eB : env.builtins = builtinsNs := by rw [← henv]; rfl
  have eS : env.scope = scope := by rw [← henv]; rfl
  have kx : env.kindOf x = some .local := by
    show env.scope.names.lookup x = _
    rw [eS]
    exact L.loc
  have ka : env.kindOf "abs" = some .globalImplicit := by
    show env.scope.names.lookup _ = _
    rw [eS]
    exact L.abs
  have kk : env.scope.kind = .function := by rw [eS]; exact L.kind
  refine PySem.W.kla_codeExpr ?_
  have I2 : Inv X pins σ H { s with heap := h₁, toks := tk + ([(x, Value.ref t)] : List (Str × Value)).length } := I1.kept k1
  have hN : h₁.Ns env.locals (fun y => ([(x, Value.ref t)] : List (Str × Value)).reverse.lookup y) := by
    rw [eL]
    exact hns
  obtain ⟨mb, hb1, hb2⟩ := I2.mod.blt
  have base : ∀ {b o}, X.base.get? b = some o → h₁.get? b = some o := fun {b o} e => I2.bk b o e
  refine PyProof.Rows.Tuple_ ?_
  show wpAny _ _ (spliced ((false, eval (.Call (.Name "abs" p1) [.Subscript (.Name x p2) (.Constant (.int 1) j p3) p4] [] p5) env) :: (false, eval (.Name x p6) env) :: [])) _ _ _
  refine Calls.spliced_cons ?_
  refine wpAny_Call_Name_kw (Calls.Name_function_global kk ka (Calls.loadGlobal_builtin (mg := X.mg) (mb := mb) (by rw [eG]; exact I2.mod.glob.keeps I2.bk) hm (by rw [eB]; exact hb1.keeps I2.bk) ((hb2 _ (by decide)).trans boot_abs) ?_) (by decide))
  refine PyProof.Rows.callWith_builtin1 ?_
  show wpAny _ _ (spliced ((false, eval (.Subscript (.Name x p2) (.Constant (.int 1) j p3) p4) env) :: [])) _ _ _
  refine Calls.spliced_cons (Subscript_ (wpAny_Name (wpAny_loadName_local kk kx hN hxv (wpAny_Constant_int ?_)) L.dbg))
  refine item_tupleL (j := 1) (itup.keeps k1) (by decide) (by decide) rfl rfl ?_
  refine Calls.spliced_nil ?_
  refine call_abs_int fun u tk2 => ?_
  refine Calls.spliced_cons (wpAny_Name (wpAny_loadName_local kk kx hN hxv ?_) L.dbg)
  refine Calls.spliced_nil ?_
  refine wpAny_newTuple ?_ (by show 2 ≤ sizeLine; decide)
  refine ⟨_, _, rfl, fun b o e => Heap.get?_push_of_some _ (k1 b o e), ?_⟩
  obtain ⟨ot, ho1, ho2, n, ho3⟩ := itup
  refine .tuple (as := [] ++ ([] ++ [])) (Heap.get?_push_size _ rfl) rfl rfl (.cons (.int _ _) (.cons (.tuple (as := [] ++ ([] ++ [])) (Heap.get?_push_of_some _ (k1 _ _ ho1)) ho2 ho3 (.cons (.int _ _) (.cons (.int _ _) .nil))) .nil))
end

/-! GLamC: sorted({x: True for x in list}, key=lambda x: (abs(x[1]), x)). -/
abbrev akI (z : Int) : Int := if z < 0 then -z else z
def kyLe (p q : Int × Int) : Bool := decide (akI p.2 < akI q.2 ∨ (akI p.2 = akI q.2 ∧ (p.1 < q.1 ∨ (p.1 = q.1 ∧ p.2 ≤ q.2))))
theorem kyD_le : PySem.W.dataLe false kyD = kyLe := by
  funext p q
  show (!PySem.W.dataLt (.tuple [.int (akI q.2), .tuple [.int q.1, .int q.2]]) (.tuple [.int (akI p.2), .tuple [.int p.1, .int p.2]])) = kyLe p q
  rw [PySem.W.dataLt_pair (by simp [PySem.W.alike]) (by simp [PySem.W.alike, PySem.W.alikeAll]), PySem.W.dataLt_ii, PySem.W.dataLt_int]
  rw [Bool.eq_iff_iff]
  unfold kyLe
  generalize akI p.2 = a
  generalize akI q.2 = b
  simp only [PyData.eqv, PyData.eqvAll, beq_iff_eq, Bool.and_true, Bool.and_eq_true, Bool.not_eq_true', decide_eq_true_eq]
  split
  · split
    · simp
      omega
    · rw [decide_eq_false_iff_not]
      omega
  · rw [decide_eq_false_iff_not]
    omega
theorem each_of_get {α β : Type} {R : α → β → Prop} : ∀ {as : List α} {bs : List β}, as.length = bs.length → (∀ (i : Nat) a b, as[i]? = some a → bs[i]? = some b → R a b) → PySem.W.EachIs R as bs
  | [], [], _, _ => .nil
  | a :: as, b :: bs, hl, h => .cons (h 0 a b rfl rfl) (each_of_get (by simpa using hl) fun i x y e1 e2 => h (i + 1) x y (by simpa using e1) (by simpa using e2))
  | [], _ :: _, hl, _ => by simp at hl
  | _ :: _, [], hl, _ => by simp at hl
theorem prs_back {H : Hp} : ∀ {us : List Value} {ps : List (Int × Int)}, PySem.W.EachIs (IsPr H) us ps → ∃ vs : List V, Vals vs us ∧ PySem.W.EachIs (IsPrV H) vs ps
  | _, _, .nil => ⟨[], .nil, .nil⟩
  | _, _, .cons ⟨t, e, ht⟩ r => by
    obtain ⟨vs, h1, h2⟩ := prs_back r
    subst e
    exact ⟨V.ref t :: vs, .cons rfl h1, .cons ⟨t, rfl, ht⟩ h2⟩
section
variable {X : Cx} {pins : List (Addr × Obj)} {σ : L2.St} {H : Hp} {s : Shared}
theorem sortK_run {ps : List (Int × Int)} {M : Hp} {D f : Addr} {Q : Value → Shared → Prop} {E : Value → Shared → Prop} (I : Inv X pins σ H s) (hc : X.calm = true) (hD : H D = some (DKey M D ps)) (sM : Same M H) (hps : ps.length ≤ 16000000) (hu : X.A.units + 10 < cLine)
    (turn : ∀ t a z, H t = some (.tup [.int a, .int z]) → ∀ (h : Heap) (tk : Nat), (∀ b o, s.heap.get? b = some o → h.get? b = some o) → wpAny (model X.prog X.w) X.A.in1.in1 (call (.ref f) [.ref t]) (PySem.W.KeyPure (kyD (a, z)) { s with heap := h, toks := tk }) (fun _ _ => False) { s with heap := h, toks := tk })
    (q : ∀ L vs' s', H L = none → Inv X pins σ (upd H L (.lst vs')) s' → PySem.W.EachIs (IsPrV M) vs' (ps.mergeSort kyLe) → Q (.ref L) s') :
    wpAny (model X.prog X.w) X.A (call (.builtin "sorted") [.ref D] [(Str.ofString "key", .ref f)]) Q E s := by
  obtain ⟨⟨es, ep, raw, lo, hn, at_⟩, _, _⟩ := I.hok D _ hD
  have h16 : es.size ≤ sizeLine := by
    rw [sizeLine_eq]
    omega
  refine call_function_entry_kw PyProof.Rows.kind_sorted PyProof.Rows.plain_sorted PyProof.Rows.entry_sorted (PyProof.Rows.ksk_s1 _ _) ?_
  unfold Builtin.«sorted»
  refine wpAny_bind (m := checkCount "sorted" 1 1 _) (wpAny_pure ?_)
  refine wpAny_bind (PySem.W.kdu_collect (A := X.A.in1) (PySem.KdlSrc.rawDict lo) (I.ok.hd hc) raw h16 fun h' tk acc hk hacc => ?_)
  have hal : acc.toList.length = ps.length := by rw [Array.length_toList, hacc.1, hn]
  have hE : PySem.W.EachIs (IsPr M) acc.toList ps := each_of_get hal fun i v p e1 e2 => by
    obtain ⟨hi, e3⟩ := hacc.2 i v (by rw [← Array.getElem?_toList]; exact e1)
    rw [e3]
    exact (at_ i p e2).2
  have hzl : acc.toList.length ≤ sizeLine := by omega
  refine wpAny_bind (wpAny_newList ?_ hzl)
  have hoL : (h'.push (seqObj "list" acc.toList.toArray 0)).get? h'.objs.size = some (seqObj "list" acc.toList.toArray 0) := Heap.get?_push_size _ rfl
  have I1 : Inv X pins σ H { s with heap := h', toks := tk } := I.kept hk
  show wpAny _ _ _ _ _ { s with heap := h'.push (seqObj "list" acc.toList.toArray 0), toks := tk }
  refine wpAny_bind (wpAny_holding (wpAny_call_entry_kw PyProof.Rows.slot_list_sort ⟨_, hoL, rfl⟩ PyProof.Rows.entry_list_sort ?_ (PyProof.Rows.ksk_l1 _ _)))
  show wpAny (model X.prog X.w) X.A.in1.in1 (Builtin.«list.sort» ⟨[.ref h'.objs.size], [(Str.ofString "key", .ref f)]⟩) _ _ _
  rw [PyProof.Rows.ksk_t1]
  have kp0 : ∀ {g : Heap}, PySem.W.KeepsBut h'.objs.size (h'.push (seqObj "list" acc.toList.toArray 0)) g → ∀ b o, h'.get? b = some o → g.get? b = some o := fun {g} kp b o e =>
    kp b o (Nat.ne_of_lt (Heap.lt_size e)) (Heap.get?_push_of_some _ e)
  have hdep : ∀ p : Int × Int, (kyD p).depth = 2 := fun p => by simp [kyD, PyData.depth, PyData.depthAll]
  refine PySem.W.keyH_tree (kz := ps.map kyD) (s := { s with heap := h'.push (seqObj "list" acc.toList.toArray 0), toks := tk }) hoL (by rw [List.length_map, hal]) hzl
    (PySem.W.AllAlike.of fun _ _ => by simp [kyD, PySem.W.alike, PySem.W.alikeAll]) (PySem.W.Sortable.tuples fun _ => ⟨_, _, rfl⟩) (fun d hd => ?_) (fun i v d e1 e2 h tk2 kp => ?_) fun h2 tk2 out c kp hL ko => ?_
  · obtain ⟨p, _, rfl⟩ := List.mem_map.mp hd
    rw [hdep]
    show X.A.units + 2 + 2 < cLine
    omega
  · rw [List.getElem?_map] at e2
    obtain ⟨p, hp, rfl⟩ := Option.map_eq_some_iff.mp e2
    have hm : (v, p) ∈ acc.toList.zip ps := List.mem_of_getElem? (i := i) (by rw [List.getElem?_zip_eq_some]; exact ⟨e1, hp⟩)
    obtain ⟨t, rfl, ht⟩ := hE.zip _ hm
    exact turn t p.1 p.2 (sM _ _ ht) h tk2 fun b o e => kp0 kp b o (hk b o e)
  · have eo := PySem.W.keyedOut_each (R := IsPr M) kyD ko hE
    rw [kyD_le] at eo
    obtain ⟨vs', v1, v2⟩ := prs_back eo
    have hlen : vs'.length ≤ sizeLine := by
      rw [v2.length, List.length_mergeSort]
      omega
    refine ⟨_, rfl, wpAny_pure ⟨_, rfl, ?_⟩⟩
    refine q _ vs' _ (I1.hok.fresh (Nat.le_refl _)) (I1.laid (t' := tk2) (kp0 kp) (Nat.le_refl _) ⟨hlen, out, c, v1, hL⟩) v2
end

/-! GLamD: sorted({x: True for x in list}, key=lambda x: (abs(x[1]), x)), a list of the frame's own. -/
def tSortK (te : TE) : TE := fun σ H Q => te σ H fun v H1 => ∃ (D : Addr) (ps : List (Int × Int)) (M : Hp), v = .ref D ∧ H1 D = some (DKey M D ps) ∧ Same M H1 ∧ NT M ∧ ps.length ≤ 16000000 ∧ TbS H1 ∧
  ∀ H2, LamX.ExtN H1 H2 → TbS H2 → ∀ L vs', H2 L = none → PySem.W.EachIs (IsPrV M) vs' (ps.mergeSort kyLe) → Q (.ref L) (upd H2 L (.lst vs'))
theorem pe_sortK {X : Cx} {x : Str} {e : Expr} {te : TE} {c P : Addr} {n : Nat} {params : Arguments} {scope : Scope} {p lpos kpos pos p1 p2 p3 p4 p5 p6 p7 : Pos} {j k : Nat} (hr : Room n X.A) (ha : PE X e te) (L : LamOne x scope) (hm : X.mg "sorted" = none) (hma : X.mg "abs" = none)
    (TB : LamX.TabB X.base X.mg c P) (hcode : X.env.code = .ref c) (hmT : (P, X.env.qual ++ "<lambda>") ∈ TbC.tbs) (hu : ∀ p ∈ TbC.tbs, p.1 = P → p.2 = X.env.qual ++ "<lambda>") (hdef : defaultsOf params X.env = ([], []) := by rfl)
    (hbind : ∀ (q : Str) (cl : List (Str × Addr)) (pm cv ctv v : Value), bindArgs (PySem.W.kla_fn "<lambda>" q params (absBody x p1 p2 p3 p4 p5 p6 p7 j k) scope cl pm cv ctv) ⟨[v], []⟩ = pure [(x, v)] := by intros; rfl)
    (hg : Gl X "sorted" := by rfl) (hc : X.calm = true := by rfl)
    (he : backTo pos (starEach (e :: []) X.env) = (false, eval e X.env) :: backTo pos (starEach [] X.env) := by rfl) (hpl : (backTo pos (starEach (e :: []) X.env)).any (·.1) = false := by rfl) (he' : starEach [e] X.env = (false, eval e X.env) :: starEach [] X.env := by rfl)
    (hall : (backToKw pos (keywordEach [⟨some "key", .Lambda params (absBody x p1 p2 p3 p4 p5 p6 p7 j k) scope lpos, kpos⟩] X.env)).all (·.1.isSome) = true := by rfl) (hnone : (backToKw pos (keywordEach [⟨some "key", .Lambda params (absBody x p1 p2 p3 p4 p5 p6 p7 j k) scope lpos, kpos⟩] X.env)).any (·.1.isNone) = false := by rfl) :
    PE X (.Call (.Name "sorted" p) [e] [⟨some "key", .Lambda params (absBody x p1 p2 p3 p4 p5 p6 p7 j k) scope lpos, kpos⟩] pos) (tSortK te) := by
  refine ⟨fun pins s σ H Q I h => ?_⟩
  refine wpAny_Call_Name_kw (ld_blt I hg hm PyProof.Rows.boot_sorted ?_ (by decide) (by decide))
  unfold tSortK at h
  refine PyProof.Rows.callWith_kw ?_ he hpl hall hnone
  rw [he]
  refine Calls.spliced_cons (thn (ha.run pins s σ H _ I h) fun u s1 ⟨v, H1, I1, r1, D, ps, M, e2, hD, sM, nM, hl, hT, q⟩ => Calls.spliced_nil ?_)
  · subst e2
    obtain rfl : u = Value.ref D := r1
    show wpAny _ _ (evalAll [do let v ← eval (.Lambda params (absBody x p1 p2 p3 p4 p5 p6 p7 j k) scope lpos) X.env; standAt pos; pure v]) _ _ s1
    refine wpAny_evalAll_cons (wpAny_bind (LamX.lam_make2 (T := TbC.tbs) I1 TB hcode hmT hu hT hdef (fun y hy e => absurd e (L.nofree y hy)) fun f c' pm ctv H2 s' I2 eN T2 hf hfn hfr hco => wpAny_bind (wpAny_standAt (wpAny_pure (wpAny_evalAll_nil ?_)))))
    have hD2 : H2 D = some (DKey M D ps) := eN D _ hD (fun ps z => nomatch z)
    have sM2 : Same M H2 := fun b o e => eN b o (sM b o e) fun qs z => by
      have := nM b
      rw [e, z] at this
      cases this
    show wpAny (model X.prog X.w) X.A (call (.builtin "sorted") [.ref D] [(Str.ofString "key", .ref f)]) _ _ s'
    exact sortK_run I2 hc hD2 sM2 hl (by have := hr.un; omega) (fun t a z ht h tk kp => lam_turn I2 L hf hco ht hma (by have := hr.dp; omega) (fun v => hbind _ _ _ _ _ v) h tk kp)
      fun L vs' s3 hL I3 hE => ⟨.ref L, _, I3, rfl, q H2 eN T2 L vs' hL hE⟩
/-! ### the rule -/
def kpsD : List PyData → Option (List (Int × Int))
  | [] => some []
  | .tuple [.int a, .int z] :: ds => (kpsD ds).map ((a, z) :: ·)
  | _ => none
def kpD (p : Int × Int) : PyData := .tuple [.int p.1, .int p.2]
theorem kpsD_map : ∀ ps : List (Int × Int), kpsD (ps.map kpD) = some ps
  | [] => rfl
  | p :: ps => by
    show (kpsD (ps.map kpD)).map ((p.1, p.2) :: ·) = _
    rw [kpsD_map ps]
    rfl
theorem kpsD_eq : ∀ {ds : List PyData} {ps : List (Int × Int)}, kpsD ds = some ps → ds = ps.map kpD
  | [], ps, h => by cases h; rfl
  | d :: ds, ps, h => by
    unfold kpsD at h
    split at h
    · cases h
      rename_i z
      cases z
    · rename_i a z ds' e
      cases e
      obtain ⟨l, h1, h2⟩ := Option.map_eq_some_iff.mp h
      subst h2
      rw [kpsD_eq h1]
      rfl
    · cases h
theorem tks_of {B : Hp} : ∀ {ps : List (Int × Int)} {vs : List V}, DrAll B vs (ps.map kpD) → TKs B vs (ps.map pkK)
  | [], _, h => by cases h; exact .nil
  | p :: ps, _, h => by
    cases h with
    | cons h1 h2 =>
      cases h1 with
      | tup h3 h4 =>
        refine .cons ⟨_, rfl, ?_⟩ (tks_of h2)
        cases h4 with
        | cons g1 g2 =>
          cases g2 with
          | cons g3 g4 =>
            cases g1
            cases g3
            cases g4
            exact h3
theorem prs_dr {B : Hp} : ∀ {vs : List V} {ps : List (Int × Int)}, PySem.W.EachIs (IsPrV B) vs ps → DrAll B vs (ps.map kpD)
  | _, _, .nil => .nil
  | _, _, .cons ⟨t, e, ht⟩ r => by
    subst e
    exact .cons (.tup ht (.cons (.int _) (.cons (.int _) .nil))) (prs_dr r)
def fSortK (i : Nat) : FR := fun ρ => match ρ[i]? with
  | some (.ow ds) => (kpsD ds).bind fun ps => if ps.length ≤ 16000000 then some (.ow (((nubP ps).mergeSort kyLe).map kpD), ρ) else none
  | _ => none
theorem dr_sortK {X : Cx} {x y : Str} (i : Nat) {c P : Addr} {n : Nat} {params : Arguments} {scope sd : Scope} {p lpos kpos pos p1 p2 p3 p4 p5 p6 p7 q1 q2 q3 q4 q5 : Pos} {j k jd : Nat} (hr : Room n X.A) (L : LamOne x scope) (hm : X.mg "sorted" = none) (hma : X.mg "abs" = none)
    (TB : LamX.TabB X.base X.mg c P) (hcode : X.env.code = .ref c) (hmT : (P, X.env.qual ++ "<lambda>") ∈ TbC.tbs) (hu : ∀ p ∈ TbC.tbs, p.1 = P → p.2 = X.env.qual ++ "<lambda>")
    (hy : X.N[i]? = some y := by rfl) (hv : Vis X.env.scope y := by first | exact Or.inl rfl | exact Or.inr (Or.inl rfl)) (hdef : defaultsOf params X.env = ([], []) := by rfl)
    (hbind : ∀ (q : Str) (cl : List (Str × Addr)) (pm cv ctv v : Value), bindArgs (PySem.W.kla_fn "<lambda>" q params (absBody x p1 p2 p3 p4 p5 p6 p7 j k) scope cl pm cv ctv) ⟨[v], []⟩ = pure [(x, v)] := by intros; rfl)
    (hg : Gl X "sorted" := by rfl) (hc : X.calm = true := by rfl) (hkind : sd.kind = .function := by rfl) (hloc : ∀ y ∈ sd.names, y.2 = .local := by decide)
    (hxl : sd.names.lookup x = some .local := by rfl) (hnames : ∀ y ∈ sd.names, y.2 = .local → sd.names.lookup y.1 = some .local := by decide) (hs : ∀ v, foldedSetIterable (.Name y q4) X.env v = pure v := by intro _; rfl)
    (hd1 : (y == ("__debug__" : Str)) = false := by decide) (hd2 : (y == ("__classdict__" : Str)) = false := by decide) :
    DR X (.Call (.Name "sorted" p) [.DictComp (.Name x q1) (.Constant (.bool true) jd q2) [⟨.Name x q3, .Name y q4, [], 0⟩] sd q5] [⟨some "key", .Lambda params (absBody x p1 p2 p3 p4 p5 p6 p7 j k) scope lpos, kpos⟩] pos) (fSortK i) :=
  pe_imp (pe_sortK hr (pe_dcT (u1 hr) (pe_var hy hv hd1 hd2) hc hkind hloc hxl hnames L.dbg hs) L hm hma TB hcode hmT hu hdef hbind hg hc) fun σ H Q ⟨Z, B, ρ, s, ρ', ok, e, q⟩ => by
  unfold fSortK at e
  split at e
  · rename_i ds h1
    obtain ⟨ps, e1, e2⟩ := Option.bind_eq_some_iff.mp e
    split at e2
    · rename_i hl
      cases e2
      have eds := kpsD_eq e1
      subst eds
      obtain ⟨a, o, g1, g2, g3, g4, g5⟩ := ok.ow i _ h1 rfl
      cases o with
      | lst vs =>
        refine ⟨.ref a, g1, a, vs, ps, B, rfl, g2, ok.le, tks_of g5, hl, fun D hD => ?_⟩
        have ok1 : EnvOk Z B σ (upd H D (DKey B D (nubP ps))) ρ := ok.junk hD
        refine ⟨D, nubP ps, B, rfl, upd_same, ok1.le, ok1.tb.b, Nat.le_trans (nubP_len ps) hl, ok1.tb.s, fun H2 eN T2 L vs' hL hE => ?_⟩
        have ok2 : EnvOk Z B σ H2 ρ := ok1.grow (fun b o eb => eN b o (exT_le _ _ _ eb) fun qs z => by
          have := exT_nt (upd H D (DKey B D (nubP ps))) b
          rw [eb, z] at this
          cases this) T2
        obtain ⟨ok4, r4⟩ := own_lst ok2 (prs_dr hE) hL
        exact q B _ _ (Same.refl B) ok4 r4
      | _ => exact g5.elim
    · cases e2
  · cases e
@[simp] theorem fSortK_eq (i : Nat) (ρ : En) : fSortK i ρ = match ρ[i]? with
  | some (.ow ds) => (kpsD ds).bind fun ps => if ps.length ≤ 16000000 then some (.ow (((nubP ps).mergeSort kyLe).map kpD), ρ) else none
  | _ => none := rfl

/-! GRev: t[::-1], t a pair. -/
section
variable {prog : Program} {w : World} {A : Around} {E : Value → Shared → Prop} {s : Shared}
theorem applied_rev2 {sl : Addr} {u : Tok} {Q : Int × Int × Nat → Shared → Prop} (hs : s.heap.IsSliceOf sl .none .none (.int (-1) u)) (h : Q (1, -1, 2) s) : wpAny (model prog w) A (Builtin.Slice.sliceApplied (.ref sl) (pure (2 : Int))) Q E s := by
  obtain ⟨ob, g1, g2, g3⟩ := id hs
  unfold Builtin.Slice.sliceApplied Builtin.Slice.sliceFields
  refine wpAny_bind (wpAny_bind (wpAny_field g1 g3 (x := .none) rfl (wpAny_bind (wpAny_field g1 g3 (x := .none) rfl (wpAny_bind (wpAny_field g1 g3 (x := .int (-1) u) rfl (wpAny_pure ?_)))))))
  refine wpAny_bind (slicePart_int ?_)
  show wpAny _ _ (if ((-1 : Int) == 0) = true then _ else _) _ _ s
  rw [if_neg (by decide)]
  refine wpAny_bind (slicePart_none (wpAny_bind (slicePart_none (wpAny_bind (wpAny_pure ?_)))))
  exact wpAny_pure h
theorem item_rev2 {t sl : Addr} {x y : Value} {u : Tok} {Q : Value → Shared → Prop} (ht : IsTup s.heap t #[x, y]) (hs : s.heap.IsSliceOf sl .none .none (.int (-1) u))
    (h : Q (.ref s.heap.objs.size) { s with heap := s.heap.push { cls := .type "tuple", data := .seq #[y, x] } }) : wpAny (model prog w) A (getItem (.ref t) (.ref sl)) Q E s := by
  obtain ⟨ob, g1, g2, g3⟩ := id hs
  have hT : s.TypeIs (.ref sl) "slice" := ⟨ob, g1, g2⟩
  unfold getItem
  try with_reducible refine wpAny_holding ?_
  first | refine wpAny_bind (wpAny_pure ?_) | skip
  refine wpAny_bind (wpAny_sequenceKey ht.typeIs (by decide) ?_)
  refine wpAny_bind (wpAny_callSpecial?_slot (name := Str.ofString "__getitem__") ht.typeIs PyProof.Rows.slot_tuple_getitem (wpAny_call_entry PyProof.Rows.slot_tuple_getitem ht.typeIs entry_tuple_getitem ?_ (args_tuple_getitem _ _)))
  show wpAny _ _ (Builtin.Tuple.tupleItemsOf (.ref t) >>= _) _ _ s
  refine wpAny_bind (tupleItemsOf_ ht ?_)
  refine wpAny_bind (wpAny_typeOf hT ?_)
  rw [if_pos (by decide)]
  refine wpAny_bind (applied_rev2 hs ?_)
  have hsz : sizeOk (.seq #[y, x]) := by show 2 ≤ sizeLine; decide
  first
    | exact wpAny_bind (m := Builtin.Tuple.tupleExact _) (wpAny_newObj_type (wpAny_pure ⟨_, rfl, wpAny_pure h⟩) hsz)
    | exact wpAny_bind (m := Builtin.Tuple.tupleExact _) (wpAny_newObj_type (wpAny_bind (wpAny_pure (wpAny_pure ⟨_, rfl, wpAny_pure h⟩))) hsz)
    | exact wpAny_bind (wpAny_bind (m := Builtin.Tuple.tupleExact _) (wpAny_newObj_type (wpAny_pure (wpAny_pure ⟨_, rfl, wpAny_pure h⟩)) hsz))
    | exact wpAny_bind (wpAny_bind (m := Builtin.Tuple.tupleExact _) (wpAny_newObj_type (wpAny_pure ⟨_, rfl, wpAny_pure h⟩) hsz))
end
def tRev2 (te : TE) : TE := fun σ H Q => te σ H fun v H1 => ∃ a x y, v = .ref a ∧ H1 a = some (.tup [x, y]) ∧ ∀ p, H1 p = none → Q (.ref p) (upd H1 p (.tup [y, x]))
theorem pe_rev2 {X : Cx} {e : Expr} {te : TE} {p1 p2 p3 pos : Pos} {j : Nat} (he : PE X e te) : PE X (.Subscript e (.Slice none none (some (.UnaryOp .USub (.Constant (.int 1) j p1) p2)) p3) pos) (tRev2 te) := by
  refine ⟨fun pins s σ H Q I h => ?_⟩
  refine Subscript_ (thn (he.run pins s σ H _ I h) fun v s1 ⟨x, H1, I1, r1, a, d, b, ex, hH, q1⟩ => ?_)
  subst ex
  obtain rfl : v = Value.ref a := r1
  refine wpAny_Slice ?_
  rw [evalPart_none]
  refine wpAny_pure ?_
  refine wpAny_pure ?_
  rw [evalPart_some]
  refine thn ((pe_un (pos := p2) un_neg (pe_int (X := X) (i := 1) (j := j) (pos := p1))).run pins s1 σ H1 (fun v H2 => v = .int (-1) ∧ H2 = H1) I1 ⟨1, rfl, rfl, rfl⟩) fun u s2 ⟨v2, H2, I2, r2, e1, e2⟩ => ?_
  subst e1 e2
  obtain ⟨tk, rfl⟩ := r2
  have I3 : Inv X pins σ H2 { s2 with heap := s2.heap.push { cls := .type "slice", data := .fields #[.none, .none, .int (-1) tk] } } := I2.kept (t' := s2.toks) fun b ob q => Heap.get?_push_of_some _ q
  obtain ⟨its, r, ht, hz⟩ := I3.tuple (SqT.of (K := X.K) hH)
  obtain ⟨w1, w2, rfl, e1, e2⟩ := vals2 r
  refine tail_any (ops := [.ref a, .ref s2.heap.objs.size]) ht.typeIs PyProof.Rows.slot_tuple_getitem.lookup (item_rev2 ht (Heap.IsSliceOf.new ..) ?_) (by with_unfolding_all rfl)
  refine ⟨.ref _, _, I3.laid (a := _) (o := .tup [b, d]) (t' := s2.toks) (fun _ _ z => Heap.get?_push_of_some _ z) (Nat.le_refl _) ⟨by show 2 ≤ sizeLine; decide, [w2, w1], .cons e2 (.cons e1 .nil), IsTup.new _ _⟩, rfl, q1 _ (I3.hok.fresh (Nat.le_refl _))⟩
def fRev2 (f : FE) : FE := fun ρ => (f ρ).bind fun p => match p.1 with
  | .tuple [x, y] => some (.tuple [y, x], p.2)
  | _ => none
theorem de_rev2 {X : Cx} {e : Expr} {f : FE} {p1 p2 p3 pos : Pos} {j : Nat} (h : DE X e f) : DE X (.Subscript e (.Slice none none (some (.UnaryOp .USub (.Constant (.int 1) j p1) p2)) p3) pos) (fRev2 f) := pe_imp (pe_rev2 h) fun σ H Q ⟨Z, B, ρ, s, ρ', ok, e, q⟩ => by
  unfold fRev2 at e
  obtain ⟨⟨d, ρ1⟩, e1, e2⟩ := Option.bind_eq_some_iff.mp e
  split at e2
  · rename_i x y z
    replace z : d = .tuple [x, y] := z
    subst z
    cases e2
    refine ⟨Z, B, ρ, _, _, ok, e1, fun B1 H1 v s1 ok1 dv => ?_⟩
    cases dv with
    | tup h1 h2 =>
      cases h2 with
      | cons g1 g2 =>
        cases g2 with
        | cons g3 g4 =>
          cases g4
          refine ⟨_, _, _, rfl, ok1.le _ _ h1, fun p hp => ?_⟩
          obtain ⟨sb, ok2, dr⟩ := lay_tup ok1 (.cons g3 (.cons g1 .nil)) hp
          exact q _ _ _ (s1.trans sb) ok2 dr
  · cases e2
@[simp] theorem fRev2_eq (f : FE) (ρ : En) : fRev2 f ρ = (f ρ).bind fun p => match p.1 with
  | .tuple [x, y] => some (.tuple [y, x], p.2)
  | _ => none := rfl

/-! GTab: a def whose code object and table are known (it makes a lambda). -/
structure DefAtC (K : PySem.W.Frag) (mg : Str → Option Value) (x : Str) (st : Stmt) : Prop where
  ex : ∃ fd, FunD K x x (defArgs st) (defBody st) (defScope st) [] [] (He.fAd K (x, none)) fd ∧ mg x = some (.ref (He.fAd K (x, none)))
structure TabA (K : PySem.W.Frag) (mg : Str → Option Value) (base : Heap) (x : Str) : Prop where
  tb : LamX.TabB base mg (He.cT K (x, none)).1 (He.cT K (x, none)).2
  tbs : TbC.tbs = [((He.cT K (x, none)).2, (x ++ ".<locals>.") ++ "<lambda>")]
theorem TabA.mem {K : PySem.W.Frag} {mg : Str → Option Value} {base : Heap} {x q : Str} (T : TabA K mg base x) (h : q = (x ++ ".<locals>.") ++ "<lambda>") : ((He.cT K (x, none)).2, q) ∈ TbC.tbs := by
  rw [T.tbs, h]
  exact List.mem_singleton.mpr rfl
theorem TabA.all {K : PySem.W.Frag} {mg : Str → Option Value} {base : Heap} {x q : Str} (T : TabA K mg base x) (h : q = (x ++ ".<locals>.") ++ "<lambda>") : ∀ p ∈ TbC.tbs, p.1 = (He.cT K (x, none)).2 → p.2 = q := fun p hp _ => by
  rw [T.tbs] at hp
  rw [List.mem_singleton.mp hp, h]
section
variable {P : Program} {w : World} {K : PySem.W.Frag} {mg : Str → Option Value} {base : Heap}
theorem calR_ofC {x : Str} {st : Stmt} {N ps : List Str} {k : Nat} {F : FS} (D0 : DefAtC K mg x st) (S : FnScope N ps (defScope st)) (hl : ps.length ≤ N.length)
    (h : ∀ (kV doc pm : Value) (an : Option Addr) (cdv ct : Value) (us : List Value), us.length = ps.length → bindArgs (PySem.W.fnOf x x (defArgs st) (defBody st) (defScope st) .none kV doc pm an cdv ct) ⟨us, []⟩ = pure (ps.zip us))
    (hb : ∀ (A : Around) (outer : List Env) (s : Shared) (H : Hp) (E : XK), Room k (A.deeper (envOfC x (defScope st) s.heap.objs.size (He.fAd K (x, none)) (.ref (He.codeOf K (x, none))))) →
      DSs (cxOf CX0 P w K mg base N x (defScope st) (He.fAd K (x, none)) (.ref (He.codeOf K (x, none))) A outer s H E).nox (defBody st) F) :
    CalR P w K mg base (k + 1) x ps.length (runF N.length F) := by
  obtain ⟨fd, D, g⟩ := D0.ex
  refine ⟨_, fd, ps, ?_, g, D.kp, D.bindsN h⟩
  obtain ⟨oc, od, dV, kV, doc, pm, an, cdv, ct, osl, rfl, lk, hcd, _, _⟩ := D.ex
  obtain ⟨c, ec⟩ := He.codeIn_ref hcd
  subst ec
  have e0 : He.codeOf K (x, none) = c := He.codeOf_eq lk rfl
  subst e0
  refine fn_of lk hcd S (fun vs H Q E z => ?_) fun A outer s H vs Q E hr z => ?_
  · obtain ⟨Z, B, ds, s, _, _, _, _, h4, h5, _⟩ := z
    rw [h4.length, h5]
  · obtain ⟨Z, B, ds, s1, h1, h2, h3, ht, h4, h5, h6, q⟩ := z
    refine ⟨tS F, PSs.nox (hb A outer s H E hr), ?_⟩
    unfold runF at h6
    obtain ⟨o, e1, e2⟩ := Option.bind_eq_some_iff.mp h6
    refine ⟨Z, B, _, o, env_start h1 h2 h3 ht h4 (by rw [h5]; exact hl), e1, fun B' s2 => ?_⟩
    cases o with
    | nx ρ' =>
      cases e2
      exact fun σ' H' ok => q B' H' _ s2 ok.le ok.lz ok.dj ok.tb (.inl ⟨_, rfl, .non⟩)
    | rt s ρ' =>
      cases e2
      exact fun σ' H' v ok r => q B' H' v s2 ok.le ok.lz ok.dj ok.tb r.any
    | bk ρ' => cases e2
    | ct ρ' => cases e2
end

/-! GSrt: sorted of pairs of whole numbers: of a list, of a dict's keys. -/
def ppLe (p q : Int × Int) : Bool := decide (p.1 < q.1 ∨ (p.1 = q.1 ∧ p.2 ≤ q.2))
theorem kpD_le : PySem.W.dataLe false kpD = ppLe := PySem.W.dataLe_ii (β := Int × Int) (fun p => p.1) (fun p => p.2)
theorem each_mono2 {α β : Type} {R S : α → β → Prop} (h : ∀ a b, R a b → S a b) : ∀ {as : List α} {bs : List β}, PySem.W.EachIs R as bs → PySem.W.EachIs S as bs
  | _, _, .nil => .nil
  | _, _, .cons a t => .cons (h _ _ a) (each_mono2 h t)
theorem prs_to {M : Hp} : ∀ {vs : List V} {us : List Value} {ps : List (Int × Int)}, Vals vs us → PySem.W.EachIs (IsPrV M) vs ps → PySem.W.EachIs (IsPr M) us ps
  | _, _, _, .nil, .nil => .nil
  | _, _, _, .cons r rs, .cons ⟨t, e, ht⟩ es => by
    subst e
    exact .cons ⟨t, r, ht⟩ (prs_to rs es)
section
variable {X : Cx} {pins : List (Addr × Obj)} {σ : L2.St} {H M : Hp} {s : Shared}
theorem pr_reads (I : Inv X pins σ H s) (sM : Same M H) {v : Value} {p : Int × Int} (h : IsPr M v p) : ∃ as, Reads s.heap v (kpD p) as ∧ as = [] := by
  obtain ⟨t, rfl, ht⟩ := h
  obtain ⟨_, its, rv, o, ho, hc, n, hd⟩ := (show ObjOk X.prog X.w H s.heap t (.tup [.int p.1, .int p.2]) from I.hok t _ (sM _ _ ht))
  obtain ⟨w1, w2, rfl, ⟨t1, e1⟩, ⟨t2, e2⟩⟩ := vals2 rv
  subst e1 e2
  exact ⟨[] ++ ([] ++ []), .tuple ho hc hd (.cons (.int _ _) (.cons (.int _ _) .nil)), rfl⟩
theorem kp_alike (ps : List (Int × Int)) : PySem.W.AllAlike (ps.map kpD) := PySem.W.AllAlike.of fun _ _ => by simp [kpD, PySem.W.alike, PySem.W.alikeAll]
theorem kp_sortable (ps : List (Int × Int)) : PySem.W.Sortable (ps.map kpD) := PySem.W.Sortable.tuples fun _ => ⟨_, _, rfl⟩
theorem kp_depth (p : Int × Int) : (kpD p).depth = 1 := by simp [kpD, PyData.depth, PyData.depthAll]
def rSortPL (K : PySem.W.Frag) : List V → Hp → VK → Prop := fun vs H Q => ∃ (a : Addr) (xs : List V) (ps : List (Int × Int)) (M : Hp), vs = [.ref a] ∧ SqL K H a xs ∧ PySem.W.EachIs (IsPrV M) xs ps ∧ Same M H ∧
  ∀ p vs', H p = none → PySem.W.EachIs (IsPrV M) vs' (ps.mergeSort ppLe) → Q (.ref p) (upd H p (.lst vs'))
theorem cr_sortPL (hu : X.A.units + 10 < cLine) : CallR X (.builtin "sorted") (rSortPL X.K) := by
  intro pins s σ H vs us Q I r h
  obtain ⟨a, xs, ps, M, rfl, hs, hE, sM, q⟩ := h
  obtain ⟨u, rfl, ru⟩ := vals1 r
  obtain rfl : u = Value.ref a := ru
  obtain ⟨its, rv, hl, hz⟩ := I.list hs
  have e := prs_to rv hE
  have hn : ps.length ≤ sizeLine := by
    rw [← e.length, ← rv.length]
    exact hz
  refine PySem.W.sorted_data (R := IsPr M) hl.isList e (each_mono2 (fun v p h => let ⟨as, h1, _⟩ := pr_reads I sM h; ⟨as, h1⟩) e) (kp_alike ps) (kp_sortable ps) hn (fun b _ => by rw [kp_depth]; omega) fun out ho eo => ?_
  rw [kpD_le] at eo
  obtain ⟨vs', v1, v2⟩ := prs_back eo
  obtain ⟨ep, he'⟩ := PyProof.Rows.sortedAll_at s.heap its out.toArray
  refine ⟨.ref _, upd H (s.heap.objs.size + 1) (.lst vs'), I.laid (t' := s.toks) (fun _ _ => PyProof.Rows.sortedAll_old) (Nat.le_succ _) ⟨?_, out, ep, v1, he'⟩, rfl, q _ _ (I.hok.fresh (Nat.le_succ _)) v2⟩
  rw [v1.length, ho]
  exact hn
theorem kt_at {H : Hp} {l : List (List Key × V)} {m : List (List Key × Addr × Value)} (r : KT H l m) : ∀ {i : Nat} {a : List Key × V} {b : List Key × Addr × Value}, l[i]? = some a → m[i]? = some b → H b.2.1 = some (.tup (a.1.map kV)) := by
  induction r with
  | nil => intro i a b e; simp at e
  | cons h t ih =>
    intro i a b e1 e2
    cases i with
    | zero =>
      simp at e1 e2
      subst e1 e2
      exact h.2.1
    | succ i => exact ih (by simpa using e1) (by simpa using e2)
def rSortPD : List V → Hp → VK → Prop := fun vs H Q => ∃ (D : Addr) (kvs : List (List Key × V)) (ps : List (Int × Int)), vs = [.ref D] ∧ Rd H D (.dT kvs) ∧ kvs.map (·.1) = ps.map pkK ∧
  ∀ p vs', H p = none → PySem.W.EachIs (IsPrV H) vs' (ps.mergeSort ppLe) → Q (.ref p) (upd H p (.lst vs'))
theorem cr_sortPD (hc : X.calm = true) (hu : X.A.units + 10 < cLine) : CallR X (.builtin "sorted") rSortPD := by
  intro pins s σ H vs us Q I r h
  obtain ⟨D, kvs, ps, rfl, hD, hks, q⟩ := h
  obtain ⟨u, rfl, ru⟩ := vals1 r
  obtain rfl : u = Value.ref D := ru
  obtain ⟨z, lo, xs, rel, o, es, ep, ho, hx, hdat, hes, his, hnd⟩ := dt_rd I.hok hD
  have raw : s.heap.DictRaw D es ep := ⟨o, ho, hx, hdat⟩
  have e1 := congrArg List.length hes
  rw [Array.length_toList, List.length_map] at e1
  have e2 := congrArg List.length hks
  rw [List.length_map, List.length_map] at e2
  have hn : es.size = ps.length := by rw [e1, ← rel.length, e2]
  have h16 : es.size ≤ sizeLine := by omega
  have at_ : ∀ (i : Nat) (hi : i < es.size) (p : Int × Int), ps[i]? = some p → IsPr H es[i].key p := by
    intro i hi p hp
    have g1 : es.toList[i]? = some es[i] := by simp
    rw [hes, List.getElem?_map] at g1
    obtain ⟨x, hx1, hx2⟩ := Option.map_eq_some_iff.mp g1
    have g3 : (kvs.map (·.1))[i]? = some (pkK p) := by rw [hks, List.getElem?_map, hp]; rfl
    rw [List.getElem?_map] at g3
    obtain ⟨kv, hk1, hk2⟩ := Option.map_eq_some_iff.mp g3
    have h4 := kt_at rel hk1 hx1
    rw [hk2, pkK_V] at h4
    exact ⟨x.2.1, by rw [← hx2]; rfl, h4⟩
  refine Calls.call_function_entry PyProof.Rows.kind_sorted PyProof.Rows.plain_sorted PyProof.Rows.entry_sorted (PyProof.Rows.args_sorted1 _) ?_
  unfold Builtin.«sorted»
  refine wpAny_bind (m := checkCount "sorted" 1 1 _) (wpAny_pure ?_)
  refine wpAny_bind (PySem.W.kdu_collect (A := X.A.in1) (PySem.KdlSrc.rawDict lo) (I.ok.hd hc) raw h16 fun h' tk acc hk hacc => ?_)
  have hal : acc.toList.length = ps.length := by rw [Array.length_toList, hacc.1, hn]
  have hE : PySem.W.EachIs (IsPr H) acc.toList ps := each_of_get hal fun i v p e1 e2 => by
    obtain ⟨hi, e3⟩ := hacc.2 i v (by rw [← Array.getElem?_toList]; exact e1)
    rw [e3]
    exact at_ i hi p e2
  have hzl : acc.toList.length ≤ sizeLine := by omega
  refine wpAny_bind (wpAny_newList ?_ hzl)
  have hoL : (h'.push (seqObj "list" acc.toList.toArray 0)).get? h'.objs.size = some (seqObj "list" acc.toList.toArray 0) := Heap.get?_push_size _ rfl
  have I1 : Inv X pins σ H { s with heap := h', toks := tk } := I.kept hk
  have I2 : Inv X pins σ H { s with heap := h'.push (seqObj "list" acc.toList.toArray 0), toks := tk } := I1.kept (t' := tk) fun _ _ e => Heap.get?_push_of_some _ e
  show wpAny _ _ _ _ _ { s with heap := h'.push (seqObj "list" acc.toList.toArray 0), toks := tk }
  refine wpAny_bind (wpAny_holding (PySem.W.list_sort_data (s := { s with heap := h'.push (seqObj "list" acc.toList.toArray 0), toks := tk }) (R := IsPr H) hoL hE (each_mono2 (fun v p h => let ⟨as, h1, h2⟩ := pr_reads I2 (Same.refl H) h; ⟨as, h1, by rw [h2]; simp⟩) hE) (kp_alike ps) (kp_sortable ps) (by rw [← hal]; exact hzl)
    (fun b _ => by rw [kp_depth]; show X.A.units + 1 + 1 + 1 < cLine; omega) fun out hol eo => ?_))
  rw [kpD_le] at eo
  obtain ⟨vs', v1, v2⟩ := prs_back eo
  obtain ⟨e', he'⟩ := PyProof.Rows.sortedHeap_at (vs := acc.toList) (out := out.toArray) hoL
  refine wpAny_pure ⟨_, rfl, .ref h'.objs.size, upd H h'.objs.size (.lst vs'), I1.laid (t' := tk) (fun b u e => ?_) (Nat.le_refl _) ⟨by rw [v1.length, hol, ← hal]; exact hzl, out, e', v1, he'⟩, rfl, q _ _ (I1.hok.fresh (Nat.le_refl _)) v2⟩
  exact (PyProof.Rows.sortedHeap_old (Nat.ne_of_lt (Heap.lt_size e)) (Nat.lt_succ_of_lt (Heap.lt_size e) |> fun z => by rw [size_push']; exact z)).trans (Heap.get?_push_of_some _ e)
end
/-! ### of a list -/
def fSortP (f : FE) : FR := fun ρ => (f ρ).bind fun p => match p.1 with
  | .list ds => (kpsD ds).map fun ps => (.ow ((ps.mergeSort ppLe).map kpD), p.2)
  | _ => none
theorem prs_of {B : Hp} : ∀ {ps : List (Int × Int)} {vs : List V}, DrAll B vs (ps.map kpD) → PySem.W.EachIs (IsPrV B) vs ps
  | [], _, h => by cases h; exact .nil
  | p :: ps, _, h => by
    cases h with
    | cons h1 h2 =>
      cases h1 with
      | tup h3 h4 =>
        refine .cons ⟨_, rfl, ?_⟩ (prs_of h2)
        cases h4 with
        | cons g1 g2 =>
          cases g2 with
          | cons g3 g4 =>
            cases g1
            cases g3
            cases g4
            exact h3
theorem dr_sortP {X : Cx} {e : Expr} {f : FE} {n : Nat} {p pos : Pos} (hr : Room n X.A) (hm : X.mg "sorted" = none) (ha : DE X e f) (hg : Gl X "sorted" := by rfl) (he : starEach [e] X.env = (false, eval e X.env) :: starEach [] X.env := by rfl) (hpl : (backTo pos (starEach [] X.env)).any (·.1) = false := by rfl) :
    DR X (.Call (.Name "sorted" p) [e] [] pos) (fSortP f) := pe_imp (pe_callB (cr_sortPL (by have := hr.un; omega)) hg hm boot_sorted (pa_cons ha pa_nil he) (by decide) (by decide) he hpl) fun σ H Q ⟨Z, B, ρ, s, ρ', ok, e, q⟩ => by
  unfold fSortP at e
  obtain ⟨⟨d1, ρ1⟩, e1, e2⟩ := Option.bind_eq_some_iff.mp e
  split at e2
  · rename_i ds z
    replace z : d1 = .list ds := z
    subst z
    obtain ⟨ps, e3, e4⟩ := Option.map_eq_some_iff.mp e2
    cases e4
    have eds := kpsD_eq e3
    subst eds
    refine ⟨Z, B, ρ, _, _, ok, e1, fun B1 H1 v s1 ok1 dv => ?_⟩
    cases dv with
    | lst h1 h2 =>
      refine ⟨_, _, ps, B1, rfl, SqL.of (ok1.le _ _ h1), prs_of h2, ok1.le, fun p vs' hp hE => ?_⟩
      obtain ⟨ok4, r4⟩ := own_lst ok1 (prs_dr hE) hp
      exact q B1 _ _ s1 ok4 r4
  · cases e2
@[simp] theorem fSortP_eq (f : FE) (ρ : En) : fSortP f ρ = (f ρ).bind fun p => match p.1 with
  | .list ds => (kpsD ds).map fun ps => (.ow ((ps.mergeSort ppLe).map kpD), p.2)
  | _ => none := rfl

/-! GLn: a dict whose values are lists that grow, kept aside while a loop runs. -/
section
variable {Z : Zn} {B : Hp} {σ : L2.St} {H : Hp} {ρ : En}
theorem zn_ext {a b : Zn} (h1 : a.fr = b.fr) (h2 : a.bag = b.bag) (h3 : a.pin = b.pin) : a = b := by
  cases a
  cases b
  cases h1
  cases h2
  cases h3
  rfl
/-- what stays changes -/
theorem EnvOk.zmut (ok : EnvOk Z B σ H ρ) {p : Addr} {o o' : HO} (h : Z.fr p = some o) (ho : NoTb o) (ho' : NoTb o') : EnvOk (Z.upd p o') B σ (upd H p o') ρ := by
  refine ⟨same_upd_right ok.le (ok.dj p o h), same_upd_both ok.lz, fun a u q => ?_, ok.len, ok.sh, fun i s e1 e2 => ?_, ok.io, ok.ad, ok.inj, ok.tb.z.upd ho', ok.tb.b, ok.tb.s.nt fun u z => by
    rw [ok.lz p o h] at z
    cases z
    exact ho⟩
  · have q' : upd Z.fr p o' a = some u := q
    by_cases e : a = p
    · subst e
      exact ok.dj a o h
    · rw [upd_ne e] at q'
      exact ok.dj a u q'
  · obtain ⟨a, u, h1, h2, h3, h4, h5⟩ := ok.ow i s e1 e2
    have ne : a ≠ p := fun z => by
      rw [z, h] at h4
      cases h4
    exact ⟨a, u, h1, by rw [upd_ne ne]; exact h2, h3, by show upd Z.fr p o' a = none; rw [upd_ne ne]; exact h4, h5⟩
end
/-! ### the lists by their keys -/
abbrev Gm := List (List Key × List PyData)
def addG : Gm → List Key → PyData → Gm
  | [], k, d => [(k, [d])]
  | x :: g, k, d => if x.1 = k then (x.1, x.2 ++ [d]) :: g else x :: addG g k d
def gSmall (g : Gm) : Bool := decide (g.length ≤ 1000000) && g.all fun x => decide (x.2.length ≤ 1000000)
abbrev LR (Z0 : Zn) (fr B : Hp) : List (List Key × Addr) → Gm → Prop := Paired fun x y => x.1 = y.1 ∧ Z0.fr x.2 = none ∧ ∃ vs, fr x.2 = some (.lst vs) ∧ DrAll B vs y.2
abbrev dL (l : List (List Key × Addr)) : List (List Key × V) := l.map fun x => (x.1, V.ref x.2)
structure Gh (Z0 Z : Zn) (B : Hp) (g : Gm) : Prop where
  z0 : Same Z0.fr Z.fr
  bag : Z.bag = Z0.bag
  nd : Z0.fr Z.pin = none
  ex : ∃ l : List (List Key × Addr), Z.fr Z.pin = some (.dT (dL l)) ∧ (Z.pin :: l.map (·.2)).Nodup ∧ LR Z0 Z.fr B l g
theorem LR.mono {Z0 : Zn} {fr fr' B B' : Hp} {l : List (List Key × Addr)} {g : Gm} (h : LR Z0 fr B l g) (s : Same B B') (hf : ∀ x ∈ l, ∀ o, fr x.2 = some o → fr' x.2 = some o) : LR Z0 fr' B' l g := by
  induction h with
  | nil => exact .nil
  | cons a t ih =>
    obtain ⟨h1, h2, vs, h3, h4⟩ := a
    exact .cons ⟨h1, h2, vs, hf _ List.mem_cons_self _ h3, h4.mono s⟩ (ih fun x hx => hf x (List.mem_cons_of_mem _ hx))
theorem Gh.mono {Z0 Z : Zn} {B B' : Hp} {g : Gm} (h : Gh Z0 Z B g) (s : Same B B') : Gh Z0 Z B' g := by
  obtain ⟨l, h1, h2, h3⟩ := h.ex
  exact ⟨h.z0, h.bag, h.nd, l, h1, h2, h3.mono s fun _ _ _ e => e⟩
/-- a key that is there -/
theorem LR.add {Z0 : Zn} {fr B : Hp} {l : List (List Key × Addr)} {g : Gm} {k : List Key} {L : Addr} (h : LR Z0 fr B l g) (hk : valV (dL l) k = some (.ref L)) (nd : (l.map (·.2)).Nodup) :
    ∃ vs xs, fr L = some (.lst vs) ∧ L ∈ l.map (·.2) ∧ Z0.fr L = none ∧ (∃ y ∈ g, y.2 = xs) ∧ vs.length = xs.length ∧ ∀ B' v d, Same B B' → Dr B' v d → LR Z0 (upd fr L (.lst (vs ++ [v]))) B' l (addG g k d) := by
  induction h with
  | nil => cases hk
  | @cons x y l g a t ih =>
    obtain ⟨h1, h2, vs, h3, h4⟩ := a
    rw [List.map_cons, List.nodup_cons] at nd
    by_cases e : x.1 = k
    · have e1 : valV (dL (x :: l)) k = some (V.ref x.2) := valV_pos (p := (x.1, V.ref x.2)) e
      rw [e1] at hk
      cases hk
      refine ⟨vs, y.2, h3, List.mem_cons_self, h2, ⟨y, List.mem_cons_self, rfl⟩, h4.length, fun B' v d s dv => ?_⟩
      unfold addG
      rw [if_pos (h1.symm.trans e)]
      refine .cons ⟨h1, h2, vs ++ [v], upd_same, (h4.mono s).app (.cons dv .nil)⟩ (LR.mono t s fun z hz o ez => ?_)
      rw [upd_ne (fun q => nd.1 (by rw [← q]; exact List.mem_map.mpr ⟨z, hz, rfl⟩))]
      exact ez
    · have e1 : valV (dL (x :: l)) k = valV (dL l) k := valV_neg (p := (x.1, V.ref x.2)) e
      rw [e1] at hk
      obtain ⟨vs', xs', g1, g2, g3, ⟨y', g4, g5⟩, g6, g7⟩ := ih hk nd.2
      refine ⟨vs', xs', g1, List.mem_cons_of_mem _ g2, g3, ⟨y', List.mem_cons_of_mem _ g4, g5⟩, g6, fun B' v d s dv => ?_⟩
      unfold addG
      rw [if_neg (fun q => e (h1.trans q))]
      refine .cons ⟨h1, h2, vs, ?_, h4.mono s⟩ (g7 B' v d s dv)
      rw [upd_ne (fun q => nd.1 (by rw [q]; exact g2))]
      exact h3
/-- a key that is new -/
theorem LR.new {Z0 : Zn} {fr B : Hp} {l : List (List Key × Addr)} {g : Gm} {k : List Key} (h : LR Z0 fr B l g) (hk : valV (dL l) k = none) {p : Addr} (hz : Z0.fr p = none) (hp : p ∉ l.map (·.2)) {B' : Hp} {v : V} {d : PyData} (s : Same B B') (dv : Dr B' v d) : LR Z0 (upd fr p (.lst [v])) B' (l ++ [(k, p)]) (addG g k d) := by
  induction h with
  | nil => exact .cons ⟨rfl, hz, [v], upd_same, .cons dv .nil⟩ .nil
  | @cons x y l g a t ih =>
    obtain ⟨h1, h2, vs, h3, h4⟩ := a
    have e : ¬ x.1 = k := fun e => by
      have e1 : valV (dL (x :: l)) k = some (V.ref x.2) := valV_pos (p := (x.1, V.ref x.2)) e
      rw [e1] at hk
      cases hk
    have e1 : valV (dL (x :: l)) k = valV (dL l) k := valV_neg (p := (x.1, V.ref x.2)) e
    rw [e1] at hk
    rw [List.map_cons, List.mem_cons, not_or] at hp
    unfold addG
    rw [if_neg (fun q => e (h1.trans q)), List.cons_append]
    refine .cons ⟨h1, h2, vs, ?_, h4.mono s⟩ (ih hk hp.2)
    rw [upd_ne (fun q => hp.1 q.symm)]
    exact h3
theorem putK_none {κ : Type} [DecidableEq κ] {kvs : List (κ × V)} {k : κ} {v : V} (h : valV kvs k = none) : putK kvs k v = kvs ++ [(k, v)] := by
  unfold putK
  rw [valV_any, h]
  rfl
/-! ### d.setdefault(t, x), t a tuple -/
section
variable {X : Cx} {pins : List (Addr × Obj)} {σ : L2.St} {H : Hp} {s : Shared}
theorem d_setdT {a b : Addr} {kvs : List (List Key × V)} {k : List Key} {d : V} {r : Value} {E : Value → Shared → Prop} {Q : Value → Shared → Prop} (hu : X.A.units + 1 < cLine) (I : Inv X pins σ H s) (e : H a = some (.dT kvs)) (eb : H b = some (.tup (k.map kV))) (rd : RelV d r) (hl : kvs.length < sizeLine)
    (h1 : ∀ v, valV kvs k = some v → ∀ (w' : Value) (s' : Shared), Inv X pins σ H s' → RelV v w' → Q w' s') (h2 : valV kvs k = none → ∀ (w' : Value) (s' : Shared), Inv X pins σ (upd H a (.dT (putK kvs k d))) s' → RelV d w' → Q w' s') :
    wpAny (model X.prog X.w) X.A (call (.builtin "dict.setdefault") [.ref a, .ref b, r]) Q E s := by
  obtain ⟨z, hd, xs, rel, dd⟩ := dt_of I.hok e
  have hz : xs.length ≤ sizeLine := by rw [← Paired.length rel]; exact z
  have q := rel.val k
  refine call_setdefault_heap (hsz := hz) (tupleKind_room_in1 hu) (key_of I.hok eb) hd dd (fun p hp => ?_) fun hn h' dd' hs => ?_
  · rw [hp] at q
    cases q0 : valV kvs k with
    | none =>
      rw [q0] at q
      exact (show False from q).elim
    | some v0 =>
      rw [q0] at q
      exact h1 v0 q0 _ _ (I.tok _) q
  · rw [hn] at q
    cases q0 : valV kvs k with
    | some v0 =>
      rw [q0] at q
      exact (show False from q).elim
    | none =>
      have hl2 : (putK kvs k d).length ≤ sizeLine := by
        have := length_putK kvs k d
        omega
      obtain ⟨ob, es, ep, hq, g2, g3, g4, _, g5⟩ := dd'
      refine h2 q0 _ _ (d_write I (by rw [e]; exact True.intro) hs ⟨ob, hq⟩ ⟨hl2, hd, _, (rel.put k eb rd).keeps fun c ys ec => ?_, ob, es, ep, hq, g2, g3, g4, g5⟩) rd
      rw [upd_ne (ne_of ec e (fun z => nomatch z))]
      exact ec
end
def tDSetdT (td ty tx : TE) : TE := fun σ H Q => td σ H fun x H1 => ∃ a, x = .ref a ∧ IsD H1 a ∧ ty σ H1 fun y H2 => tx σ H2 fun z H3 => ∃ (kvs : List (List Key × V)) (k : List Key) (b : Addr), H3 a = some (.dT kvs) ∧ y = .ref b ∧ H3 b = some (.tup (k.map kV)) ∧ kvs.length < sizeLine ∧
  (∀ v, valV kvs k = some v → Q v H3) ∧ (valV kvs k = none → Q z (upd H3 a (.dT (putK kvs k z))))
theorem pe_dsetdT {X : Cx} {o e f : Expr} {td ty tx : TE} {apos cpos : Pos} (hu : X.A.units + 1 < cLine) (ho : PE X o td) (he : PE X e ty) (hf : PE X f tx) (m : M2 X o "setdefault" apos e f cpos) : PE X (.Call (.Attribute o "setdefault" apos) [e, f] [] cpos) (tDSetdT td ty tx) := by
  refine ⟨fun pins s σ H Q I h => ?_⟩
  refine wpAny_Call_method m.base m.few m.line PySem.F.plainAttrs_dict PySem.F.slot_dict_setdefault PySem.F.type_dict_setdefault (thn (ho.run pins s σ H _ I h) fun u s1 ⟨x, H1, I1, rx, a, ex, d, q1⟩ => ?_)
  subst ex
  obtain rfl : u = Value.ref a := rx
  obtain ⟨t1, t2, _⟩ := isD_at I1 d
  refine ⟨t1, t2, ?_⟩
  rw [m.trees]
  refine Calls.callWith_builtin rfl (Calls.evalArgs_plain (Calls.spliced_cons (thn (he.run pins s1 σ H1 _ I1 q1) fun iv s2 ⟨y, H2, I2, ry, q2⟩ =>
    Calls.spliced_cons (thn (hf.run pins s2 σ H2 _ I2 q2) fun fv s3 ⟨z, H3, I3, rz, kvs, k, b, ea, ey, eb, hl, q3, q4⟩ => Calls.spliced_nil ?_))))
  subst ey
  obtain rfl : iv = Value.ref b := ry
  exact d_setdT hu I3 ea eb rz hl (fun v hv w' s4 I4 rw' => ⟨v, _, I4, rw', q3 v hv⟩) fun hn w' s4 I4 rw' => ⟨z, _, I4, rw', q4 hn⟩
/-! ### statements beside the lists -/
abbrev FG2 := En × Gm → Option (En × Gm)
def tSG (F : FG2) : TS := fun D σ H => ∃ Z0 Z B ρ g o, EnvOk Z B σ H ρ ∧ Gh Z0 Z B g ∧ F (ρ, g) = some o ∧ ∀ Z' B' σ' H', Same B B' → EnvOk Z' B' σ' H' o.1 → Gh Z0 Z' B' o.2 → D.nx σ' H'
abbrev DSG (X : Cx) (st : Stmt) (F : FG2) := PS X st (tSG F)
abbrev DSSG (X : Cx) (st : List Stmt) (F : FG2) := PSs X st (tSG F)
def gLift (F : FS) : FG2 := fun p => (F p.1).bind fun o => match o with
  | .nx ρ' => some (ρ', p.2)
  | _ => none
def gSeq (F G : FG2) : FG2 := fun p => (F p).bind G
def gIf (c : FT) (F G : FG2) : FG2 := fun p => (c p.1).bind fun q => if q.1 = true then F (q.2, p.2) else G (q.2, p.2)
def gSkip : FG2 := fun p => some p
def gLoop (gt : FG) (F : FG2) : List PyData → FG2
  | [], p => some p
  | d :: ds, p => (gt d p.1).bind fun ρ1 => (F (ρ1, p.2)).bind (gLoop gt F ds)
def gFor (it : FI) (gt : FG) (F : FG2) : FG2 := fun p => (it p.1).bind fun q => gLoop gt F q.1 (q.2, p.2)
def gApp (i : Nat) (fk f : FE) : FG2 := fun p => match p.1[i]? with
  | some .pi => if gSmall p.2 = true then (fk p.1).bind fun q => (tkeyD q.1).bind fun k => (f q.2).bind fun r => some (r.2, addG p.2 k r.1) else none
  | _ => none
section
variable {X : Cx} {st : Stmt} {rest : List Stmt} {F : FS} {G1 G2 : FG2} {pos : Pos}
theorem dsg_lift (h : DS X st F) : DSG X st (gLift F) := ps_imp h fun D σ H ⟨Z0, Z, B, ρ, g, o, ok, gh, e, q⟩ => by
  unfold gLift at e
  obtain ⟨o1, e1, e2⟩ := Option.bind_eq_some_iff.mp e
  refine ⟨Z, B, ρ, o1, ok, e1, fun B1 s1 => ?_⟩
  cases o1 with
  | nx ρ1 =>
    cases e2
    exact fun σ1 H1 ok1 => q Z B1 σ1 H1 s1 ok1 (gh.mono s1)
  | rt s ρ1 => cases e2
  | bk ρ1 => cases e2
  | ct ρ1 => cases e2
theorem dssg_nil : DSSG X [] gSkip := pss_imp pss_nil fun D σ H ⟨Z0, Z, B, ρ, g, o, ok, gh, e, q⟩ => by
  cases e
  exact q Z B σ H (Same.refl B) ok gh
theorem dssg_one (h : DSG X st G1) : DSSG X [st] G1 := pss_one h
theorem dssg_cons (h1 : DSG X st G1) (h2 : DSSG X rest G2) : DSSG X (st :: rest) (gSeq G1 G2) := pss_imp (pss_cons h1 h2) fun D σ H ⟨Z0, Z, B, ρ, g, o, ok, gh, e, q⟩ => by
  obtain ⟨o1, e1, e2⟩ := Option.bind_eq_some_iff.mp e
  exact ⟨Z0, Z, B, ρ, g, o1, ok, gh, e1, fun Z1 B1 σ1 H1 s1 ok1 gh1 => ⟨Z0, Z1, B1, o1.1, o1.2, o, ok1, gh1, e2, fun Z2 B2 σ2 H2 s2 ok2 gh2 => q Z2 B2 σ2 H2 (s1.trans s2) ok2 gh2⟩⟩
theorem dsg_if {c : Expr} {a b : List Stmt} {u : FT} (hc : DT X c u) (ha : DSSG X a G1) (hb : DSSG X b G2) : DSG X (.If c a b pos) (gIf u G1 G2) := ps_imp (ps_if hc ha hb) fun D σ H ⟨Z0, Z, B, ρ, g, o, ok, gh, e, q⟩ => by
  obtain ⟨⟨c, ρ1⟩, e1, e2⟩ := Option.bind_eq_some_iff.mp e
  refine ⟨Z, B, ρ, c, ρ1, ok, e1, fun B1 H1 s1 ok1 => ?_⟩
  cases c with
  | true =>
    rw [if_pos rfl] at e2 ⊢
    exact ⟨Z0, Z, B1, ρ1, g, o, ok1, gh.mono s1, e2, fun Z2 B2 σ2 H2 s2 ok2 gh2 => q Z2 B2 σ2 H2 (s1.trans s2) ok2 gh2⟩
  | false =>
    rw [if_neg Bool.false_ne_true] at e2 ⊢
    exact ⟨Z0, Z, B1, ρ1, g, o, ok1, gh.mono s1, e2, fun Z2 B2 σ2 H2 s2 ok2 gh2 => q Z2 B2 σ2 H2 (s1.trans s2) ok2 gh2⟩
theorem dsg_for {tg iter : Expr} {body : List Stmt} {it : FI} {js : List Nat} {gt : FG} (hi : DI X tg iter it) (hg : DG X tg js gt) (hb : DSSG X body G1) (hc : X.calm = true := by rfl) (hp : PassesOwn (model X.prog X.w) X.A X.env X.xe := by exact PassesOwn.never)
    (hs : ∀ x, foldedSetIterable iter X.env x = pure x := by intro _; rfl) : DSG X (.For tg iter body [] pos) (gFor it gt G1) := ps_imp (ps_for hp hc hi hg hb hs) fun D σ H ⟨Z0, Z, B, ρ, g, o, ok, gh, q0, q⟩ => by
  unfold gFor at q0
  obtain ⟨⟨ds, ρ1⟩, e1, e2⟩ := Option.bind_eq_some_iff.mp q0
  refine ⟨Z, B, ρ, ds, ρ1, ok, e1, fun B1 H1 J s1 ok1 wk => ?_⟩
  refine ⟨fun i m σ2 H2 => m = ds.length - i ∧ i ≤ ds.length ∧ ∃ Z2 B2 p2, Same B1 B2 ∧ EnvOk Z2 B2 σ2 H2 p2.1 ∧ Gh Z0 Z2 B2 p2.2 ∧ gLoop gt G1 (ds.drop i) p2 = some o, ⟨ds.length, by simp, Nat.zero_le _, Z, B1, (ρ1, g), Same.refl B1, ok1, gh.mono s1, by rw [List.drop_zero]; exact e2⟩, fun i m σ2 H2 hW => ?_⟩
  obtain ⟨rfl, hi, Z2, B2, p2, s2, ok2, gh2, hf⟩ := hW
  by_cases h : i < ds.length
  · obtain ⟨d, h1, h2⟩ := drop_at h
    rw [h2] at hf
    obtain ⟨ρ3, e3, e4⟩ := Option.bind_eq_some_iff.mp hf
    obtain ⟨o3, e5, e6⟩ := Option.bind_eq_some_iff.mp e4
    obtain ⟨go, yl⟩ := (wk Z2 B2 σ2 H2 p2.1 i s2 ok2).2 d h1
    refine .inr ⟨go, fun σ' H' => ∃ Z4 B4 p4, Same B1 B4 ∧ EnvOk Z4 B4 σ' H' p4.1 ∧ Gh Z0 Z4 B4 p4.2 ∧ gLoop gt G1 (ds.drop (i + 1)) p4 = some o, fun σ' H' hN => ⟨ds.length - (i + 1), by omega, rfl, h, hN⟩, fun x H' hy => ?_⟩
    obtain ⟨B3, s3, ok3, dx⟩ := yl x H' hy
    exact ⟨Z2, B3, p2.1, d, ρ3, ok3, dx, e3, fun σ3 ok4 _ => ⟨Z0, Z2, B3, ρ3, p2.2, o3, ok4, gh2.mono s3, e5, fun Z4 B4 σ4 H4 s4 ok5 gh4 => ⟨Z4, B4, o3, s2.trans (s3.trans s4), ok5, gh4, e6⟩⟩⟩
  · have e : i = ds.length := by omega
    rw [e, List.drop_length] at hf
    cases hf
    exact .inl ⟨(wk Z2 B2 σ2 H2 _ i s2 ok2).1 e, q Z2 B2 σ2 H2 (s1.trans s2) ok2 gh2⟩
end

/-! GLn2: d.setdefault(k, []).append(x). -/
theorem gSmall_len {g : Gm} (h : gSmall g = true) : g.length ≤ 1000000 ∧ ∀ y ∈ g, y.2.length ≤ 1000000 := by
  unfold gSmall at h
  rw [Bool.and_eq_true, decide_eq_true_eq, List.all_eq_true] at h
  exact ⟨h.1, fun y hy => of_decide_eq_true (h.2 y hy)⟩
section
variable {X : Cx} {e ek : Expr} {f fk : FE} {pos : Pos}
theorem dsg_app {n : Nat} (i : Nat) {x : Str} {px a1 c1 a2 c2 pl : Pos} (hr : Room n X.A) (hk : DE X ek fk) (he : DE X e f) (hN : X.N[i]? = some x := by rfl) (hv : Vis X.env.scope x := by first | exact Or.inl rfl | exact Or.inr (Or.inl rfl) | exact Or.inr (Or.inr rfl)) (hd : (x == ("__debug__" : Str)) = false := by decide)
    (hcd : (x == ("__classdict__" : Str)) = false := by decide) (m : M2 X (.Name x px) "setdefault" a1 ek (.List [] pl) c1 := by exact ⟨rfl, rfl, rfl, rfl⟩)
    (hbase : attributeBase (.Call (.Attribute (.Name x px) "setdefault" a1) [ek, .List [] pl] [] c1) "append" X.env (eval (.Call (.Attribute (.Name x px) "setdefault" a1) [ek, .List [] pl] [] c1) X.env) = eval (.Call (.Attribute (.Name x px) "setdefault" a1) [ek, .List [] pl] [] c1) X.env := by rfl)
    (hfew : ((backTo c2 (starEach [e] X.env)).all (fun x => !x.1) && (backToKw c2 (keywordEach [] X.env)).all (fun x => x.1.isSome)
      && decide ([e].length + ([] : List Keyword).length + (if ([] : List Keyword).isEmpty then 0 else 1) < 30)) = true := by rfl)
    (hline : (a2.endLine == c2.line) = true := by rfl) (hs : starEach [e] X.env = (false, eval e X.env) :: starEach [] X.env := by rfl) (hplain : (backTo c2 (starEach [] X.env)).any (·.1) = false := by rfl)
    (hsw : swapsWith (.Call (.Attribute (.Call (.Attribute (.Name x px) "setdefault" a1) [ek, .List [] pl] [] c1) "append" a2) [e] [] c2) none pos.line X.env = pure false := by rfl) :
    DSG X (.Expr (.Call (.Attribute (.Call (.Attribute (.Name x px) "setdefault" a1) [ek, .List [] pl] [] c1) "append" a2) [e] [] c2) pos) (gApp i fk f) :=
  ps_imp (ps_expr (pe_bm PySem.F.plainAttrs_list PySem.F.slot_list_append PySem.F.type_list_append mt_append (pe_dsetdT (u1 hr) (pe_var hN hv hd hcd) hk (pe_lst pa_nil) m) (pa_cons he pa_nil hs) hbase hfew hline hs hplain) hsw) fun D σ H ⟨Z0, Z, B, ρ, g, o, ok, gh, e, q⟩ => by
  unfold gApp at e
  split at e
  · rename_i hpi
    split at e
    · rename_i hsm
      obtain ⟨⟨d1, ρ1⟩, e1, e2⟩ := Option.bind_eq_some_iff.mp e
      obtain ⟨k, e3, e4⟩ := Option.bind_eq_some_iff.mp e2
      obtain ⟨⟨d2, ρ2⟩, e5, e6⟩ := Option.bind_eq_some_iff.mp e4
      cases e6
      obtain ⟨hgl, hgx⟩ := gSmall_len (g := g) hsm
      obtain ⟨l, zD, nd, lr⟩ := gh.ex
      have hσ : σ[i]? = some (some (.ref Z.pin)) := ok.ad i _ hpi
      have hD0 : H Z.pin = some (.dT (dL l)) := ok.lz _ _ zD
      have hll : (dL l).length < sizeLine := by
        rw [List.length_map, lr.length, sizeLine_eq]
        omega
      refine ⟨.ref Z.pin, hσ, Z.pin, rfl, .inr ⟨_, .inl hD0⟩, Z, B, ρ, d1, ρ1, ok, e1, fun B1 H1 y s1 ok1 dy => ?_⟩
      obtain ⟨b, rfl, hb⟩ := dr_tkey dy e3
      refine ⟨by decide, fun p hp => ?_⟩
      have hD1 : H1 Z.pin = some (.dT (dL l)) := ok1.lz _ _ zD
      have hpD : Z.pin ≠ p := fun z => by
        rw [z, hp] at hD1
        cases hD1
      have hbp : b ≠ p := fun z => by
        have := ok1.le _ _ hb
        rw [z, hp] at this
        cases this
      have ok2 : EnvOk Z B1 σ (upd H1 p (.lst [])) ρ1 := ok1.junk hp
      refine ⟨dL l, k, b, by rw [upd_ne hpD]; exact hD1, rfl, by rw [upd_ne hbp]; exact ok1.le _ _ hb, hll, fun v hv => ?_, fun hn => ?_⟩
      · obtain ⟨L, rfl⟩ : ∃ L, v = V.ref L := by
          have aux : ∀ (l : List (List Key × Addr)), valV (dL l) k = some v → ∃ L, v = V.ref L := by
            intro l
            induction l with
            | nil => intro z; cases z
            | cons x l ih =>
              intro z
              by_cases ex : x.1 = k
              · have e9 : valV (dL (x :: l)) k = some (V.ref x.2) := valV_pos (p := (x.1, V.ref x.2)) ex
                rw [e9] at z
                exact ⟨x.2, (Option.some.inj z).symm⟩
              · have e9 : valV (dL (x :: l)) k = valV (dL l) k := valV_neg (p := (x.1, V.ref x.2)) ex
                rw [e9] at z
                exact ih z
          exact aux l hv
        rw [List.nodup_cons] at nd
        obtain ⟨vs, xs, g1, g2, g3, ⟨y', g4, g5⟩, g6, g7⟩ := LR.add lr hv nd.2
        have hL : (upd H1 p (HO.lst [])) L = some (.lst vs) := ok2.lz _ _ g1
        refine ⟨.inl ⟨rfl, vs, SqL.of hL⟩, Z, B1, ρ1, d2, ρ2, ok2, e5, fun B2 H2 w s2 ok3 dw => ?_⟩
        have hL2 : H2 L = some (.lst vs) := ok3.lz _ _ g1
        refine ⟨L, vs, w, rfl, rfl, hL2, by rw [g6, ← g5, sizeLine_eq]; have := hgx y' g4; omega, ?_⟩
        have hLD : L ≠ Z.pin := fun z => nd.1 (by rw [← z]; exact g2)
        have ok4 := ok3.zmut (o' := .lst (vs ++ [w])) g1 trivial trivial
        refine q (Z.upd L (.lst (vs ++ [w]))) B2 σ _ (s1.trans s2) ok4 ⟨fun c u ec => ?_, gh.bag, gh.nd, l, ?_, List.nodup_cons.mpr nd, g7 B2 w d2 (s1.trans s2) dw⟩
        · show upd Z.fr L (.lst (vs ++ [w])) c = some u
          rw [upd_ne (ne_of_none ec g3)]
          exact gh.z0 _ _ ec
        · show upd Z.fr L (.lst (vs ++ [w])) Z.pin = _
          rw [upd_ne hLD.symm]
          exact zD
      · -- a new list
        have zp : Z.fr p = none := ok1.lz.free hp
        have b1p : B1 p = none := ok1.le.free hp
        have hpl : p ∉ l.map (·.2) := fun z => by
          have aux : ∀ {l : List (List Key × Addr)} {g : Gm}, LR Z0 Z.fr B l g → ∀ x ∈ l, ∃ vs, Z.fr x.2 = some (.lst vs) := by
            intro l g r
            induction r with
            | nil => intro x hx; cases hx
            | cons a t ih =>
              intro x hx
              rcases List.mem_cons.mp hx with ex | hx
              · obtain ⟨_, _, vs, h3, _⟩ := a
                rw [ex]
                exact ⟨vs, h3⟩
              · exact ih x hx
          obtain ⟨x, hx, ex⟩ := List.mem_map.mp z
          obtain ⟨vs, h3⟩ := aux lr x hx
          rw [ex, zp] at h3
          cases h3
        have zp0 : Z0.fr p = none := gh.z0.free zp
        have ok3 := ok2.keep (p := p) upd_same b1p (NotOwn.new ok1 hp)
        have zD1 : (Z.upd p (.lst [])).fr Z.pin = some (.dT (dL l)) := by
          show upd Z.fr p (.lst []) Z.pin = _
          rw [upd_ne hpD]
          exact zD
        have ok4 := ok3.zmut (o' := .dT (putK (dL l) k (.ref p))) zD1 trivial trivial
        have ePut : putK (dL l) k (.ref p) = dL (l ++ [(k, p)]) := by
          rw [putK_none hn]
          unfold dL
          rw [List.map_append]
          rfl
        rw [ePut] at ok4 ⊢
        have zp2 : ((Z.upd p (.lst [])).upd Z.pin (.dT (dL (l ++ [(k, p)])))).fr p = some (.lst []) := by
          show upd (upd Z.fr p (.lst [])) Z.pin _ p = _
          rw [upd_ne hpD.symm, upd_same]
        refine ⟨.inl ⟨rfl, [], SqL.of (ok4.lz _ _ zp2)⟩, _, B1, ρ1, d2, ρ2, ok4, e5, fun B2 H2 w s2 ok5 dw => ?_⟩
        refine ⟨p, [], w, rfl, rfl, ok5.lz _ _ zp2, by rw [sizeLine_eq]; decide, ?_⟩
        have ok6 := ok5.zmut (o' := .lst ([] ++ [w])) zp2 trivial trivial
        refine q _ B2 σ _ (s1.trans s2) ok6 ⟨fun c u ec => ?_, gh.bag, gh.nd, l ++ [(k, p)], ?_, ?_, ?_⟩
        · show upd (upd (upd Z.fr p (.lst [])) Z.pin _) p _ c = some u
          rw [upd_ne (ne_of_none ec zp0), upd_ne (ne_of_none ec gh.nd), upd_ne (ne_of_none ec zp0)]
          exact gh.z0 _ _ ec
        · show upd (upd (upd Z.fr p (.lst [])) Z.pin _) p _ Z.pin = _
          rw [upd_ne hpD, upd_same]
        · show (Z.pin :: (l ++ [(k, p)]).map (·.2)).Nodup
          rw [List.map_append, List.nodup_cons, List.mem_append, not_or]
          rw [List.nodup_cons] at nd
          refine ⟨⟨nd.1, by simpa using hpD⟩, List.nodup_append.mpr ⟨nd.2, by simp, fun a ha c hc z => ?_⟩⟩
          have ec : c = p := by simpa using hc
          rw [z, ec] at ha
          exact hpl ha
        · have h1 : LR Z0 (upd Z.fr p (.lst [w])) B2 (l ++ [(k, p)]) (addG g k d2) := LR.new lr hn zp0 hpl (s1.trans s2) dw
          refine h1.mono (Same.refl B2) fun x hx o' eo => ?_
          show upd (upd (upd Z.fr p (.lst [])) Z.pin _) p (.lst ([] ++ [w])) x.2 = some o'
          by_cases ex : x.2 = p
          · rw [ex, upd_same] at eo ⊢
            exact eo
          · rw [upd_ne ex] at eo ⊢
            have ne : x.2 ≠ Z.pin := fun z => by
              have hx' : x ∈ l := by
                rcases List.mem_append.mp hx with y | y
                · exact y
                · rw [List.mem_singleton.mp y] at ex
                  exact (ex rfl).elim
              rw [List.nodup_cons] at nd
              exact nd.1 (by rw [← z]; exact List.mem_map.mpr ⟨x, hx', rfl⟩)
            rw [upd_ne ne, upd_ne ex]
            exact eo
    · cases e
  · cases e
end

/-! GLn3: a def that reads a dict of lists; for .. d.setdefault(..).append(..) .. return f(d). -/
/-! ### a def whose one argument is a locked dict -/
def runK (n : Nat) (F : FS) (m : List (List Key × PyData)) : Option Sl := (F (.lt m :: List.replicate (n - 1) .un)).bind resO
def spK (F : List (List Key × PyData) → Option Sl) : Sp := fun vs H Q _ => ∃ (Z : Zn) (B : Hp) (a : Addr) (od : Obj) (l : List (List Key × V)) (m : List (List Key × PyData)) (s : Sl), vs = [.ref a] ∧ Same B H ∧ Same Z.fr H ∧ (∀ a o, Z.fr a = some o → B a = none) ∧ TbOk Z.fr B H ∧
  B a = some (.frz od (.dT l)) ∧ KvR B l m ∧ F m = some s ∧ ∀ B' H' v, Same B B' → Same B' H' → Same Z.fr H' → (∀ a o, Z.fr a = some o → B' a = none) → TbOk Z.fr B' H' → RepR Z B' H' (fun _ => True) v s → Q v H'
theorem env_startK {Z : Zn} {B H : Hp} {N : List Str} {a : Addr} {od : Obj} {l : List (List Key × V)} {m : List (List Key × PyData)} (h1 : Same B H) (h2 : Same Z.fr H) (h3 : ∀ a o, Z.fr a = some o → B a = none) (ht : TbOk Z.fr B H) (hN : 0 < N.length) (hB : B a = some (.frz od (.dT l))) (hk : KvR B l m) :
    EnvOk Z B (L2.start N [.ref a]) H (.lt m :: List.replicate (N.length - 1) .un) := by
  have hat : ∀ (i : Nat) s, (Sl.lt m :: List.replicate (N.length - 1) Sl.un)[i]? = some s → (i = 0 ∧ s = .lt m) ∨ s = .un := fun i s e => by
    cases i with
    | zero =>
      cases e
      exact .inl ⟨rfl, rfl⟩
    | succ i => exact .inr (List.eq_of_mem_replicate (List.mem_of_getElem? (show (List.replicate (N.length - 1) Sl.un)[i]? = some s from e)))
  refine ⟨h1, h2, h3, ?_, fun i d e => ?_, fun i s e1 e2 => ?_, fun i xs e => ?_, fun i v e => ?_, fun i j s t b e1 e2 e3 e4 e5 e6 => ?_, ht⟩
  · rw [start_length (by exact hN), List.length_cons, List.length_replicate]
    omega
  · rcases hat i _ e with ⟨_, z⟩ | z <;> cases z
  · rcases hat i _ e1 with ⟨_, z⟩ | z <;> subst z <;> cases e2
  · rcases hat i _ e with ⟨_, z⟩ | z <;> cases z
  · rcases hat i _ e with ⟨h, z⟩ | z
    · cases z
      rw [h]
      exact ⟨a, od, l, start_at rfl, hB, hk⟩
    · cases z
      exact trivial
  · rcases hat i _ e1 with ⟨_, z⟩ | z <;> subst z <;> cases e2
structure CalK (P : Program) (w : World) (K : PySem.W.Frag) (mg : Str → Option Value) (base : Heap) (k : Nat) (x : Str) (F : List (List Key × PyData) → Option Sl) : Prop where
  ex : ∃ f fd ps, FnOk P w K mg base CX0 k f fd ps (spK F) ∧ mg x = some (.ref f) ∧ PySem.W.keepIn K (.ref f) = true ∧ Binds K fd ps []
section
variable {P : Program} {w : World} {K : PySem.W.Frag} {mg : Str → Option Value} {base : Heap}
theorem calK_of {x y : Str} {st : Stmt} {N : List Str} {k : Nat} {F : FS} (D0 : DefAt K mg x st) (S : FnScope N [y] (defScope st)) (hl : 0 < N.length)
    (h : ∀ (kV doc pm : Value) (an : Option Addr) (cdv ct : Value) (us : List Value), us.length = ([y] : List Str).length → bindArgs (PySem.W.fnOf x x (defArgs st) (defBody st) (defScope st) .none kV doc pm an cdv ct) ⟨us, []⟩ = pure (([y] : List Str).zip us))
    (hb : ∀ (f : Addr) (cdv : Value) (A : Around) (outer : List Env) (s : Shared) (H : Hp) (E : XK), Room k (A.deeper (envOfC x (defScope st) s.heap.objs.size f cdv)) → DSs (cxOf CX0 P w K mg base N x (defScope st) f cdv A outer s H E).nox (defBody st) F) :
    CalK P w K mg base (k + 1) x (runK N.length F) := by
  obtain ⟨f, fd, D, g⟩ := D0.ex
  refine ⟨f, fd, [y], D.ok S (fun vs H Q E z => ?_) (fun cdv A outer s H vs Q E hr z => ?_), g, D.kp, D.bindsN h⟩
  · obtain ⟨Z, B, a, od, l, m, s, rfl, _⟩ := z
    rfl
  · obtain ⟨Z, B, a, od, l, m, s1, rfl, h1, h2, h3, ht, h4, h5, h6, q⟩ := z
    refine ⟨tS F, PSs.nox (hb f cdv A outer s H E hr), ?_⟩
    unfold runK at h6
    obtain ⟨o, e1, e2⟩ := Option.bind_eq_some_iff.mp h6
    refine ⟨Z, B, _, o, env_startK h1 h2 h3 ht hl h4 h5, e1, fun B' s2 => ?_⟩
    cases o with
    | nx ρ' =>
      cases e2
      exact fun σ' H' ok => q B' H' _ s2 ok.le ok.lz ok.dj ok.tb (.inl ⟨_, rfl, .non⟩)
    | rt s ρ' =>
      cases e2
      exact fun σ' H' v ok r => q B' H' v s2 ok.le ok.lz ok.dj ok.tb r.any
    | bk ρ' => cases e2
    | ct ρ' => cases e2
end
/-! ### the lists join the world -/
def gD (g : Gm) : List (List Key × PyData) := g.map fun x => (x.1, .list x.2)
theorem freezeL {Z0 : Zn} {fr H : Hp} {σ : L2.St} {ρ : En} {l : List (List Key × Addr)} {g : Gm} : ∀ {B : Hp}, LR Z0 fr B l g → EnvOk Z0 B σ H ρ → (∀ x ∈ l, ∀ o, fr x.2 = some o → H x.2 = some o) → (∀ x ∈ l, B x.2 = none) → (∀ x ∈ l, NotOwn σ ρ x.2) → (l.map (·.2)).Nodup →
    ∃ B', Same B B' ∧ EnvOk Z0 B' σ H ρ ∧ KvR B' (dL l) (gD g) ∧ ∀ a, a ∉ l.map (·.2) → B' a = B a := by
  induction l generalizing g with
  | nil =>
    intro B lr ok _ _ _ _
    cases lr
    exact ⟨B, Same.refl B, ok, .nil, fun _ _ => rfl⟩
  | cons x l ih =>
    intro B lr ok hf hb hn nd
    rw [List.map_cons, List.nodup_cons] at nd
    cases lr with
    | cons a t =>
      rename_i y g'
      obtain ⟨h1, h2, vs, h3, h4⟩ := a
      have ok1 := ok.freeze (hf x List.mem_cons_self _ h3) (hb x List.mem_cons_self) h2 (hn x List.mem_cons_self)
      have sb : Same B (upd B x.2 (.lst vs)) := same_upd_new (hb x List.mem_cons_self)
      obtain ⟨B', s1, ok2, kv, out⟩ := ih (LR.mono t sb fun _ _ _ e => e) ok1 (fun z hz => hf z (List.mem_cons_of_mem _ hz)) (fun z hz => by
        rw [upd_ne (fun q => nd.1 (by rw [← q]; exact List.mem_map.mpr ⟨z, hz, rfl⟩))]
        exact hb z (List.mem_cons_of_mem _ hz)) (fun z hz => hn z (List.mem_cons_of_mem _ hz)) nd.2
      refine ⟨B', sb.trans s1, ok2, ?_, fun a ha => ?_⟩
      · have e : Dr B' (.ref x.2) (.list y.2) := .lst (s1 _ _ upd_same) (h4.mono (sb.trans s1))
        have e2 : dL (x :: l) = (x.1, V.ref x.2) :: dL l := rfl
        have e3 : gD (y :: g') = (y.1, .list y.2) :: gD g' := rfl
        rw [e2, e3, ← h1]
        exact .cons e kv
      · rw [List.map_cons, List.mem_cons, not_or] at ha
        rw [out a ha.2, upd_ne ha.1]
/-! ### return f(d) -/
def fLines (i : Nat) (it : FI) (gt : FG) (F : FG2) (FK : List (List Key × PyData) → Option Sl) : FS := fun ρ => match ρ[i]? with
  | some (.ot []) => if nopi ρ = true then (gFor it gt F (ρ.set i .pi, [])).bind fun p => match p.1[i]? with
    | some .pi => if nopi (p.1.set i .un) = true ∧ nolk (p.1.set i .un) = true then (FK (gD p.2)).map fun s => .rt s (p.1.set i .un) else none
    | _ => none
    else none
  | _ => none
section
variable {X : Cx} {k j : Nat}
theorem dss_lines {tg iter : Expr} {body : List Stmt} {it : FI} {js : List Nat} {gt : FG} {F : FG2} {FK : List (List Key × PyData) → Option Sl} {fx x : Str} {p1 p2 pc pr pos : Pos} (i : Nat) (hi : DI X tg iter it) (hg : DG X tg js gt) (hb : DSSG X body F) (C : CalK X.prog X.w X.K X.mg X.base j fx FK) (hr : Room k X.A) (hjk : j ≤ k := by decide)
    (hN : X.N[i]? = some x := by rfl) (hv : Vis X.env.scope x := by first | exact Or.inl rfl | exact Or.inr (Or.inl rfl) | exact Or.inr (Or.inr rfl)) (hd : (x == ("__debug__" : Str)) = false := by decide) (hcd : (x == ("__classdict__" : Str)) = false := by decide)
    (hgl : Gl X fx := by rfl) (hdb : (fx == ("__debug__" : Str)) = false := by decide) (he : starEach [.Name x p2] X.env = (false, eval (.Name x p2) X.env) :: starEach [] X.env := by rfl) (hpl : (backTo pc (starEach [] X.env)).any (·.1) = false := by rfl)
    (hc : X.calm = true := by rfl) (hp : PassesOwn (model X.prog X.w) X.A X.env X.xe := by exact PassesOwn.never) (hs : ∀ x, foldedSetIterable iter X.env x = pure x := by intro _; rfl) :
    DSs X [.For tg iter body [] pos, .Return (some (.Call (.Name fx p1) [.Name x p2] [] pc)) pr] (fLines i it gt F FK) := by
  obtain ⟨f, fd, ps, D0, hm, hkp, hbd⟩ := C.ex
  refine pss_imp (pss_cons (dsg_for (pos := pos) hi hg hb hc hp hs) (pss_one (ps_lock (ps_ret (pos := pr) (pe_call (p := p1) (pos := pc) D0 (hr.mono hjk) hgl hm hkp hbd .nil pass0 (pa_cons (pe_var hN hv hd hcd) pa_nil he) hdb he hpl))))) fun D σ H ⟨Z0, B, ρ, o, ok, e, q⟩ => ?_
  unfold fLines at e
  split at e
  · rename_i h1
    split at e
    · rename_i np
      obtain ⟨p, e1, e2⟩ := Option.bind_eq_some_iff.mp e
      split at e2
      · rename_i h2
        split at e2
        · rename_i hnn
          obtain ⟨s, e3, e4⟩ := Option.map_eq_some_iff.mp e2
          cases e4
          -- the dict goes aside
          obtain ⟨a, od, q1, q2, q3, q4, q5⟩ := ok.ow i _ h1 rfl
          cases od with
          | dT l0 =>
            have el : l0 = [] := by
              have q6 : KvR B l0 [] := q5
              cases q6
              rfl
            subst el
            have g1 := (ok.forget i).repin (nopi_set np (fun z => nomatch z)) a
            have hn : NotOwn σ (ρ.set i .un) a := fun j s e1 e2 e3 => by
              rcases getElem?_set_cases e1 with ⟨rfl, z2, z3⟩ | ⟨z1, z2⟩
              · subst z2
                cases e2
              · exact z1 (ok.inj j i s _ a z2 e2 h1 rfl e3 q1)
            have g2 := g1.keep q2 q3 hn
            have g3 := EnvOk.setAd g2 i (s := .pi) rfl (fun d z => nomatch z) (fun d z => nomatch z) q1
            rw [List.set_set] at g3
            refine ⟨Z0, _, B, _, [], p, g3, ⟨same_upd_new q4, rfl, q4, [], upd_same, by simp, .nil⟩, e1, fun Z1 B1 σ1 H1 s1 ok1 gh => ?_⟩
            obtain ⟨l, zD, nd, lr⟩ := gh.ex
            have hσ : σ1[i]? = some (some (.ref Z1.pin)) := ok1.ad i _ h2
            have hD : H1 Z1.pin = some (.dT (dL l)) := ok1.lz _ _ zD
            have b1 := (ok1.forget i).repin hnn.1 Z0.pin
            have b2 : EnvOk Z0 B1 σ1 H1 (p.1.set i .un) := b1.zle gh.z0 gh.bag rfl
            have nown : ∀ c u, Z1.fr c = some u → NotOwn σ1 (p.1.set i .un) c := fun c u hz j s e1 e2 e3 => by
              obtain ⟨b, o, w1, w2, w3, w4, _⟩ := b1.ow j s e1 e2
              have := ref_same e3 w1
              subst this
              have w5 : Z1.fr c = none := w4
              rw [hz] at w5
              cases w5
            rw [List.nodup_cons] at nd
            have lrfr : ∀ x ∈ l, ∃ vs, Z1.fr x.2 = some (.lst vs) := by
              have aux : ∀ {l : List (List Key × Addr)} {g : Gm}, LR Z0 Z1.fr B1 l g → ∀ x ∈ l, ∃ vs, Z1.fr x.2 = some (.lst vs) := by
                intro l g r
                induction r with
                | nil => intro x hx; cases hx
                | cons a t ih =>
                  intro x hx
                  rcases List.mem_cons.mp hx with ex | hx
                  · obtain ⟨_, _, vs, h3, _⟩ := a
                    rw [ex]
                    exact ⟨vs, h3⟩
                  · exact ih x hx
              exact aux lr
            obtain ⟨B2, s2, b3, kv, out⟩ := freezeL lr b2 (fun x hx o eo => ok1.lz _ _ eo) (fun x hx => let ⟨vs, h⟩ := lrfr x hx; ok1.dj _ _ h) (fun x hx => let ⟨vs, h⟩ := lrfr x hx; nown _ _ h) nd.2
            have hBD : B2 Z1.pin = none := (out _ nd.1).trans (ok1.dj _ _ zD)
            refine ⟨Z1.pin, .dT (dL l), hD, trivial, fun ob => ?_⟩
            refine ⟨.ref Z1.pin, hσ, ?_⟩
            show spK FK [.ref Z1.pin] (upd H1 Z1.pin (.frz ob (.dT (dL l)))) _ E0
            have b4 := b3.other (o := .frz ob (.dT (dL l))) hBD gh.nd (nown _ _ zD) (fun u z => by rw [hD] at z; cases z; trivial)
            have b5 := b4.freeze upd_same hBD gh.nd (nown _ _ zD)
            have sb5 : Same B2 (upd B2 Z1.pin (.frz ob (.dT (dL l)))) := same_upd_new hBD
            refine ⟨restZ _ _ Z0.bag (fun _ => false), _, Z1.pin, ob, dL l, gD p.2, s, rfl, b5.le, fun a o h => (restZ_at h).2.2, fun a o h => (restZ_at h).1, restZ_tb b5.tb, upd_same, KvR.mono sb5 kv, e3, fun B' H' v s3 s4 s5 s6 st rv => ?_⟩
            have b6 := b5.after s3 s4 s5 s6 st (fun _ _ _ => rfl) fun _ _ _ _ _ _ => rfl
            have r6 := RepR.after b5 s3 st rv fun _ _ => rfl
            have hB' : B' Z1.pin = some (.frz ob (.dT (dL l))) := s3 _ _ upd_same
            refine ⟨b6.le _ _ hB', ?_⟩
            have b7 := EnvOk.unlock b6 hB' gh.nd hnn.2
            have hB0 : B Z1.pin = none := s1.free (ok1.dj _ _ zD)
            have sB : Same B (erB B' Z1.pin) := fun c u ec => by
              rw [erB_ne (ne_of_none ec hB0)]
              exact s3 _ _ (sb5 _ _ (s2 _ _ (s1 _ _ ec)))
            refine q (erB B' Z1.pin) sB σ1 _ v b7 ?_
            rcases r6 with ⟨d, e8, r8⟩ | ⟨c, oo, e8, w1, w2, w3, w4, w5, w6⟩
            · exact .inl ⟨d, e8, dr_er hB' _ _ r8⟩
            · have nc : c ≠ Z1.pin := fun z => by
                rw [z, hB'] at w2
                cases w2
              exact .inr ⟨c, oo, e8, by rw [upd_ne nc]; exact w1, by rw [erB_ne nc]; exact w2, w3, w4, ownR_er hB' w5, w6⟩
          | _ => exact q5.elim
        · cases e2
      · cases e2
    · cases e
  · cases e
end

/-! GLn4: for a, b in sorted(d), d a locked dict by pairs. -/
def keysP : List (List Key × PyData) → Option (List (Int × Int))
  | [] => some []
  | ([.inl a, .inl b], _) :: m => (keysP m).map ((a, b) :: ·)
  | _ => none
theorem keysP_eq : ∀ {m : List (List Key × PyData)} {ps : List (Int × Int)}, keysP m = some ps → m.map (·.1) = ps.map pkK
  | [], ps, h => by cases h; rfl
  | x :: m, ps, h => by
    unfold keysP at h
    split at h
    · cases h
      rename_i z
      cases z
    · rename_i a b d m' e
      cases e
      obtain ⟨l, h1, h2⟩ := Option.map_eq_some_iff.mp h
      subst h2
      rw [List.map_cons, List.map_cons, keysP_eq h1]
      rfl
    · cases h
theorem each_at {α β : Type} {R : α → β → Prop} : ∀ {as : List α} {bs : List β}, PySem.W.EachIs R as bs → ∀ {i : Nat} {b : β}, bs[i]? = some b → ∃ a, as[i]? = some a ∧ R a b
  | _, _, .nil, i, b, h => by simp at h
  | _, _, .cons r rs, 0, b, h => by
    simp at h
    subst h
    exact ⟨_, rfl, r⟩
  | _, _, .cons r rs, i + 1, b, h => by
    obtain ⟨a, h1, h2⟩ := each_at rs (i := i) (by simpa using h)
    exact ⟨a, by simpa using h1, h2⟩
/-- all of these stay -/
def keepZ (Z : Zn) (B H : Hp) (S : Addr → Bool) : Zn := ⟨fun c => if (B c).isNone && S c then H c else Z.fr c, Z.bag, Z.pin⟩
theorem EnvOk.keepS {Z : Zn} {B : Hp} {σ : L2.St} {H : Hp} {ρ : En} (ok : EnvOk Z B σ H ρ) {S : Addr → Bool} (hn : ∀ c, S c = true → NotOwn σ ρ c) (ht : ∀ c o, S c = true → H c = some o → NoTb o) : EnvOk (keepZ Z B H S) B σ H ρ ∧ Same Z.fr (keepZ Z B H S).fr := by
  have at_ : ∀ c, (keepZ Z B H S).fr c = if (B c).isNone && S c then H c else Z.fr c := fun _ => rfl
  refine ⟨⟨ok.le, fun c o e => ?_, fun c o e => ?_, ok.len, ok.sh, fun i s e1 e2 => ?_, ok.io, ok.ad, ok.inj, fun c => ?_, ok.tb.b, ok.tb.s⟩, fun c o e => ?_⟩
  · rw [at_] at e
    split at e
    · exact e
    · exact ok.lz _ _ e
  · rw [at_] at e
    split at e
    · rename_i h
      rw [Bool.and_eq_true] at h
      exact Option.isNone_iff_eq_none.mp h.1
    · exact ok.dj _ _ e
  · obtain ⟨a, o, h1, h2, h3, h4, h5⟩ := ok.ow i s e1 e2
    refine ⟨a, o, h1, h2, h3, ?_, h5⟩
    rw [at_, if_neg (fun z => by
      rw [Bool.and_eq_true] at z
      exact hn a z.2 i s e1 e2 h1)]
    exact h4
  · rw [at_]
    split
    · rename_i h
      rw [Bool.and_eq_true] at h
      cases e : H c with
      | none => rfl
      | some o => exact isT_no (ht c o h.2 e)
    · exact ok.tb.z c
  · rw [at_]
    split
    · exact ok.lz _ _ e
    · exact e
def fForSK (i : Nat) (g : FG) (F : FS) : FS := fun ρ => match ρ[i]? with
  | some (.lt m) => (keysP m).bind fun ps => forL g F ((ps.mergeSort ppLe).map kpD) ρ
  | _ => none
theorem ds_forSK {X : Cx} {es : List Expr} {body : List Stmt} {js : List Nat} {h : FGs} {F : FS} {n kt : Nat} {pos pt p1 p2 pc : Pos} {x : Str} (i : Nat) (hr : Room n X.A) (hm : X.mg "sorted" = none) (hg : DGs X es js h) (hb : DSs X body F) (hN : X.N[i]? = some x := by rfl) (hv : Vis X.env.scope x := by first | exact Or.inl rfl | exact Or.inr (Or.inl rfl) | exact Or.inr (Or.inr rfl)) (hd : (x == ("__debug__" : Str)) = false := by decide)
    (hcd : (x == ("__classdict__" : Str)) = false := by decide) (hgl : Gl X "sorted" := by rfl) (hc : X.calm = true := by rfl) (hn2 : (assignEach es X.env).length = 2 := by rfl) (hst : (assignEach es X.env).findIdx? (·.1) = none := by rfl) (hp : PassesOwn (model X.prog X.w) X.A X.env X.xe := by exact PassesOwn.never)
    (he : starEach [.Name x p2] X.env = (false, eval (.Name x p2) X.env) :: starEach [] X.env := by rfl) (hpl : (backTo pc (starEach [] X.env)).any (·.1) = false := by rfl) (hs : ∀ y, foldedSetIterable (.Call (.Name "sorted" p1) [.Name x p2] [] pc) X.env y = pure y := by intro _; rfl) :
    DS X (.For (.Tuple es kt pt) (.Call (.Name "sorted" p1) [.Name x p2] [] pc) body [] pos) (fForSK i (gTu 2 h) F) :=
  ps_imp (ps_for hp hc (pi_list (pe_callB (cr_sortPD hc (by have := hr.un; omega)) hgl hm boot_sorted (pa_cons (pe_var hN hv hd hcd) pa_nil he) (by decide) (by decide) he hpl)) (pg_tup hc hg hn2 hst) hb hs) fun D σ H ⟨Z, B, ρ, o, ok, q0, q⟩ => by
  unfold fForSK at q0
  split at q0
  · rename_i m h1
    obtain ⟨ps, e1, e2⟩ := Option.bind_eq_some_iff.mp q0
    obtain ⟨a, od, l, q1, q2, q3⟩ := ok.ad i _ h1
    have hks : l.map (·.1) = ps.map pkK := (KvR.keys q3).trans (keysP_eq e1)
    refine ⟨.ref a, q1, a, l, ps, rfl, .inr ⟨_, ok.le _ _ q2⟩, hks, fun p vs hpn hE => ?_⟩
    have ok1 : EnvOk Z B σ (upd H p (.lst vs)) ρ := ok.junk hpn
    have tup : ∀ v ∈ vs, ∃ t x y, v = V.ref t ∧ H t = some (.tup [.int x, .int y]) := fun v hv => by
      obtain ⟨j, hj, ev⟩ := List.mem_iff_getElem.mp hv
      have hj2 : j < (ps.mergeSort ppLe).length := by rw [← hE.length]; exact hj
      obtain ⟨v', h2, t, h3, h4⟩ := each_at hE (i := j) (List.getElem?_eq_getElem hj2)
      rw [List.getElem?_eq_getElem hj, ev] at h2
      cases h2
      exact ⟨t, _, _, h3, h4⟩
    obtain ⟨ok2, szz⟩ := ok1.keepS (S := fun c => decide (c = p) || decide (V.ref c ∈ vs)) (fun c hc => by
      rw [Bool.or_eq_true, decide_eq_true_eq, decide_eq_true_eq] at hc
      rcases hc with rfl | hc
      · exact NotOwn.new ok hpn
      · obtain ⟨t, x, y, e3, e4⟩ := tup _ hc
        cases e3
        intro j s e5 e6 e7
        obtain ⟨b, oo, w1, w2, w3, w4, w5⟩ := ok.ow j s e5 e6
        have := ref_same e7 w1
        subst this
        rw [e4] at w2
        cases w2
        cases s <;> exact w5) (fun c o hc ho => by
      rw [Bool.or_eq_true, decide_eq_true_eq, decide_eq_true_eq] at hc
      by_cases ec : c = p
      · rw [ec, upd_same] at ho
        cases ho
        trivial
      · rw [upd_ne ec] at ho
        rcases hc with hc | hc
        · exact (ec hc).elim
        · obtain ⟨t, x, y, e3, e4⟩ := tup _ hc
          cases e3
          rw [e4] at ho
          cases ho
          trivial)
    generalize hZ : keepZ Z B (upd H p (.lst vs)) (fun c => decide (c = p) || decide (V.ref c ∈ vs)) = Zk at ok2 szz
    have zp : Zk.fr p = some (.lst vs) := by
      rw [← hZ]
      show (if (B p).isNone && (decide (p = p) || decide (V.ref p ∈ vs)) then (upd H p (HO.lst vs)) p else Z.fr p) = _
      rw [ok.le.free hpn]
      simp [upd_same]
    have ztup : ∀ t o, V.ref t ∈ vs → H t = some o → B t = none → Zk.fr t = some o := fun t o ht ho hb => by
      rw [← hZ]
      show (if (B t).isNone && (decide (t = p) || decide (V.ref t ∈ vs)) then (upd H p (HO.lst vs)) t else Z.fr t) = _
      rw [hb, if_pos (by simp [ht]), upd_ne (ne_of_none ho hpn)]
      exact ho
    have hbag : Zk.bag = Z.bag := by rw [← hZ]; rfl
    have hpin : Zk.pin = Z.pin := by rw [← hZ]; rfl
    have hlen := hE.length
    refine ⟨p, rfl, ⟨vs, SqL.of upd_same⟩, ?_⟩
    refine ⟨fun k mm σ2 H2 => mm = vs.length - k ∧ k ≤ vs.length ∧ ∃ B2 ρ2, Same B B2 ∧ EnvOk Zk B2 σ2 H2 ρ2 ∧ forL (gTu 2 h) F (((ps.mergeSort ppLe).map kpD).drop k) ρ2 = some o, ⟨vs.length, by simp, Nat.zero_le _, B, ρ, Same.refl B, ok2, by rw [List.drop_zero]; exact e2⟩, fun k mm σ2 H2 hW => ?_⟩
    obtain ⟨rfl, hk, B2, ρ2, s2, ok3, hf⟩ := hW
    have hp2 : H2 p = some (.lst vs) := ok3.lz _ _ zp
    by_cases hlt : k < vs.length
    · have hlt2 : k < (ps.mergeSort ppLe).length := by rw [← hlen]; exact hlt
      have hx0 : (ps.mergeSort ppLe)[k]? = some ((ps.mergeSort ppLe)[k]) := List.getElem?_eq_getElem hlt2
      obtain ⟨v, hv1, t, rfl, ht⟩ := each_at hE hx0
      have hdrop : ((ps.mergeSort ppLe).map kpD).drop k = kpD ((ps.mergeSort ppLe)[k]) :: ((ps.mergeSort ppLe).map kpD).drop (k + 1) := by
        rw [List.drop_eq_getElem_cons (by rw [List.length_map]; exact hlt2), List.getElem_map]
      rw [hdrop] at hf
      generalize (ps.mergeSort ppLe)[k] = xp at hf ht hx0
      obtain ⟨ρ3, e3, e4⟩ := Option.bind_eq_some_iff.mp hf
      obtain ⟨o3, e5, e6⟩ := Option.bind_eq_some_iff.mp e4
      have e7 : h [.int xp.1, .int xp.2] ρ2 = some ρ3 := e3
      have ht2 : H2 t = some (.tup [.int xp.1, .int xp.2]) := by
        cases hb : B t with
        | none => exact ok3.lz _ _ (ztup t _ (List.mem_of_getElem? hv1) ht hb)
        | some u =>
          have h5 := ok.le _ _ hb
          rw [ht] at h5
          cases h5
          exact ok3.le _ _ (s2 _ _ hb)
      refine .inr ⟨⟨vs, .ref t, SqL.of hp2, hv1⟩, fun σ' H' => ∃ B4 ρ4, Same B B4 ∧ EnvOk Zk B4 σ' H' ρ4 ∧ forL (gTu 2 h) F (((ps.mergeSort ppLe).map kpD).drop (k + 1)) ρ4 = some o, fun σ' H' hN' => ⟨_, by omega, rfl, hlt, hN'⟩, fun y H' hy => ?_⟩
      obtain ⟨rfl, hx'⟩ := hy
      have ey : y = V.ref t := Option.some.inj ((hx' _ (SqL.of hp2)).symm.trans hv1)
      subst ey
      refine ⟨t, _, rfl, SqT.of ht2, rfl, Zk, B2, ρ2, [.int xp.1, .int xp.2], ρ3, ok3, .cons (.int _) (.cons (.int _) .nil), e7, fun σ3 ok4 _ => ⟨Zk, B2, ρ3, o3, ok4, e5, fun B4 s4 => ?_⟩⟩
      cases o3 with
      | nx ρ4 => exact fun σ5 H5 ok5 => ⟨B4, ρ4, s2.trans s4, ok5, e6⟩
      | ct ρ4 => exact fun σ5 H5 ok5 => ⟨B4, ρ4, s2.trans s4, ok5, e6⟩
      | bk ρ4 =>
        cases e6
        exact fun σ5 H5 ok5 => q B4 (s2.trans s4) σ5 H5 (ok5.zle szz hbag hpin)
      | rt s ρ4 =>
        cases e6
        exact fun σ5 H5 v ok5 r5 => q B4 (s2.trans s4) σ5 H5 v (ok5.zle szz hbag hpin) (by
          rcases r5 with ⟨d, e8, r8⟩ | ⟨c, oo, e8, w1, w2, w3, w4, w5, w6⟩
          · exact .inl ⟨d, e8, r8⟩
          · exact .inr ⟨c, oo, e8, w1, w2, szz.free w3, w4, w5, w6⟩)
    · have e : k = vs.length := by omega
      rw [e, List.drop_eq_nil_of_le (by rw [List.length_map, hlen]; exact Nat.le_refl _)] at hf
      cases hf
      exact .inl ⟨⟨vs, SqL.of hp2, by omega⟩, q B2 s2 σ2 H2 (ok3.zle szz hbag hpin)⟩
  · cases q0

/-! GSrt2: sorted of tuples of whole numbers: of a list, of a tuple, of a dict's keys. -/
abbrev kL (l : List Int) : PyData := .tuple (l.map .int)
def leL (a b : List Int) : Bool := decide (a ≤ b)
theorem kL_le : PySem.W.dataLe false kL = leL := by
  funext p q
  show (!PySem.W.dataLt (.tuple (q.map .int)) (.tuple (p.map .int))) = _
  rw [PySem.W.dataLt_tuple]
  show (!PySem.W.rowLt (q.map .int) (p.map .int)) = _
  rw [PySem.W.dataLt_ints]
  unfold leL
  by_cases h : q < p
  · have h' : ¬ p ≤ q := fun r => List.not_lt.mpr r h
    simp [h, h']
  · have h' : p ≤ q := List.not_lt.mp h
    simp [h, h']
def intsL : List PyData → Option (List (List Int))
  | [] => some []
  | .tuple xs :: r => (intsO xs).bind fun l => if l = [] then none else (intsL r).map (l :: ·)
  | _ => none
theorem intsL_eq : ∀ {ds : List PyData} {ls : List (List Int)}, intsL ds = some ls → ds = ls.map kL ∧ ∀ l ∈ ls, l ≠ []
  | [], _, h => by
    cases h
    exact ⟨rfl, fun _ h => nomatch h⟩
  | .tuple xs :: r, ls, h => by
    obtain ⟨l, h1, h2⟩ := Option.bind_eq_some_iff.mp (show ((intsO xs).bind fun l => if l = [] then none else (intsL r).map (l :: ·)) = some ls from h)
    split at h2
    · cases h2
    · rename_i hn
      obtain ⟨m, h3, h4⟩ := Option.map_eq_some_iff.mp h2
      subst h4
      obtain ⟨h5, h6⟩ := intsL_eq h3
      have h7 := intsO_eq h1
      refine ⟨by rw [h7, h5]; rfl, fun z hz => ?_⟩
      rcases List.mem_cons.mp hz with e | e
      · rw [e]
        exact hn
      · exact h6 z e
  | .none :: _, _, h => by simp [intsL] at h
  | .bool _ :: _, _, h => by simp [intsL] at h
  | .int _ :: _, _, h => by simp [intsL] at h
  | .str _ :: _, _, h => by simp [intsL] at h
  | .list _ :: _, _, h => by simp [intsL] at h
def IsTV (H : Hp) (v : V) (l : List Int) : Prop := ∃ t, v = .ref t ∧ H t = some (.tup (l.map V.int))
def IsT (H : Hp) (v : Value) (l : List Int) : Prop := ∃ t, v = .ref t ∧ H t = some (.tup (l.map V.int))
theorem ts_to {M : Hp} : ∀ {vs : List V} {us : List Value} {ls : List (List Int)}, Vals vs us → PySem.W.EachIs (IsTV M) vs ls → PySem.W.EachIs (IsT M) us ls
  | _, _, _, .nil, .nil => .nil
  | _, _, _, .cons r rs, .cons ⟨t, e, ht⟩ es => by
    subst e
    exact .cons ⟨t, r, ht⟩ (ts_to rs es)
theorem ts_back {M : Hp} : ∀ {us : List Value} {ls : List (List Int)}, PySem.W.EachIs (IsT M) us ls → ∃ vs, Vals vs us ∧ PySem.W.EachIs (IsTV M) vs ls
  | _, _, .nil => ⟨[], .nil, .nil⟩
  | _, _, .cons ⟨t, e, ht⟩ es => by
    obtain ⟨vs, h1, h2⟩ := ts_back es
    subst e
    exact ⟨.ref t :: vs, .cons rfl h1, .cons ⟨t, rfl, ht⟩ h2⟩
theorem ts_dr {B : Hp} : ∀ {vs : List V} {ls : List (List Int)}, PySem.W.EachIs (IsTV B) vs ls → DrAll B vs (ls.map kL)
  | _, _, .nil => .nil
  | _, _, .cons (bs := ls) (b := l) ⟨t, e, ht⟩ es => by
    subst e
    refine .cons (.tup ht ?_) (ts_dr es)
    clear ht
    induction l with
    | nil => exact .nil
    | cons x l ih => exact .cons (.int x) ih
theorem ints_dr {B : Hp} : ∀ {l : List Int} {vs : List V}, DrAll B vs (l.map .int) → vs = l.map V.int
  | [], _, h => by cases h; rfl
  | x :: l, _, h => by
    cases h with
    | cons h1 h2 =>
      cases h1
      rw [ints_dr h2]
      rfl
theorem ts_of {B : Hp} : ∀ {ls : List (List Int)} {vs : List V}, DrAll B vs (ls.map kL) → PySem.W.EachIs (IsTV B) vs ls
  | [], _, h => by cases h; exact .nil
  | l :: ls, _, h => by
    cases h with
    | cons h1 h2 =>
      cases h1 with
      | tup h3 h4 =>
        rw [ints_dr h4] at h3
        exact .cons ⟨_, rfl, h3⟩ (ts_of h2)
section
variable {X : Cx} {pins : List (Addr × Obj)} {σ : L2.St} {H M : Hp} {s : Shared}
theorem reads_ints {h : Heap} : ∀ {l : List Int} {its : List Value}, Vals (l.map V.int) its → ∃ as, ReadsAll h its (l.map .int) as ∧ as = []
  | [], _, r => by cases r; exact ⟨[], .nil, rfl⟩
  | x :: l, _, r => by
    cases r with
    | cons r1 r2 =>
      obtain ⟨t, e⟩ := r1
      subst e
      obtain ⟨as, h1, rfl⟩ := reads_ints r2
      exact ⟨_, .cons (.int _ _) h1, rfl⟩
theorem t_reads (I : Inv X pins σ H s) {v : Value} {l : List Int} (h : IsT H v l) : ∃ as, Reads s.heap v (kL l) as ∧ as = [] := by
  obtain ⟨t, rfl, ht⟩ := h
  obtain ⟨_, its, rv, o, ho, hc, n, hd⟩ := (show ObjOk X.prog X.w H s.heap t (.tup (l.map V.int)) from I.hok t _ ht)
  obtain ⟨as, h1, rfl⟩ := reads_ints (h := s.heap) rv
  exact ⟨_, .tuple ho hc hd (by simpa using h1), rfl⟩
theorem kL_alike (ls : List (List Int)) : PySem.W.AllAlike (ls.map kL) := PySem.W.AllAlike.of fun b b' => by
  simp only [kL, PySem.W.alike]
  exact PySem.W.alike_ints b b'
theorem kL_sortable {ls : List (List Int)} (h : ∀ l ∈ ls, l ≠ []) : PySem.W.Sortable (ls.map kL) := .inl fun d hd => by
  obtain ⟨l, hl, rfl⟩ := List.mem_map.mp hd
  cases l with
  | nil => exact (h _ hl rfl).elim
  | cons x l => exact ⟨_, _, rfl⟩
theorem depth_ints : ∀ l : List Int, PyData.depthAll (l.map .int) = 0
  | [] => rfl
  | x :: l => by simp [PyData.depthAll, PyData.depth, depth_ints l]
theorem kL_depth (l : List Int) : (kL l).depth = 1 := by simp [kL, PyData.depth, depth_ints]
/-- a dict whose keys are these tuples of whole numbers, each key's object known to M -/
def EK (P : Program) (w : World) (M : Hp) (D : Addr) (ls : List (List Int)) : HO := .ext fun h => (D == sysModules) = false ∧ ∃ xs : List (List Key × Addr × Value), KM M xs ∧ xs.map (·.1) = ls.map (fun l => l.map Sum.inl) ∧
  ∃ o es ep, h.get? D = some o ∧ o.ExactDict ∧ o.data = .dict es ep ∧ es.toList = xs.map (entryOfKey (tupleKind (mixKind P w))) ∧ (xs.map (·.1)).Nodup
/-- what holds the tuples -/
def TSrc (K : PySem.W.Frag) (P : Program) (w : World) (M H : Hp) (D : Addr) (ls : List (List Int)) : Prop :=
  (∃ xs, SqL K H D xs ∧ PySem.W.EachIs (IsTV M) xs ls) ∨ (∃ xs, H D = some (.tup xs) ∧ PySem.W.EachIs (IsTV M) xs ls) ∨ (ls = [] ∧ H D = some (.dT [])) ∨ ∃ M0, Same M0 M ∧ H D = some (EK P w M0 D ls)
theorem inl_V (l : List Int) : ((l.map Sum.inl : List Key).map kV) = l.map V.int := by rw [List.map_map]; rfl
theorem kdr {P : Program} {w : World} {h : Heap} {D : Addr} {o : Obj} {es : Array DictEntry} {ep : Nat} (h1 : h.get? D = some o) (h2 : o.ExactDict) (h3 : o.data = .dict es ep) : h.DictRaw D es ep := ⟨o, h1, h2, h3⟩
theorem coll_ts (I : Inv X pins σ H s) (sM : Same M H) (hc : X.calm = true) {A : Around} (hA : A.handled = X.A.handled) {E : Value → Shared → Prop} {D : Addr} {ls : List (List Int)} (hls : ls.length ≤ 16000000) (h : TSrc X.K X.prog X.w M H D ls) {R : List Value → Shared → Prop}
    (hR : ∀ (h' : Heap) (tk : Nat) (acc : List Value), (∀ b o, s.heap.get? b = some o → h'.get? b = some o) → PySem.W.EachIs (IsT M) acc ls → acc.length ≤ sizeLine → R acc { s with heap := h', toks := tk }) :
    wpAny (model X.prog X.w) A (collect (.ref D)) R E s := by
  have hz16 : ls.length ≤ sizeLine := by
    rw [sizeLine_eq]
    omega
  rcases h with ⟨xs, hs, hE⟩ | ⟨xs, ht, hE⟩ | ⟨rfl, hD⟩ | ⟨M0, s0, hD⟩
  · obtain ⟨its, rv, hl, hz⟩ := I.list hs
    obtain ⟨o, ho, hcl, n, hd⟩ := hl.isList
    refine wpAny_collect_seq D (.inl rfl) ho hcl hd (fun h' hk => ?_) (by rw [List.size_toArray, ← rv.length]; exact hz)
    exact hR h' s.toks its hk (ts_to rv hE) (by rw [← rv.length]; exact hz)
  · obtain ⟨hz, its, rv, o, ho, hcl, n, hd⟩ := (show ObjOk X.prog X.w H s.heap D (.tup xs) from I.hok D _ ht)
    refine wpAny_collect_seq D (.inr rfl) ho hcl hd (fun h' hk => ?_) (by rw [List.size_toArray, ← rv.length]; exact hz)
    exact hR h' s.toks its hk (ts_to rv hE) (by rw [← rv.length]; exact hz)
  · obtain ⟨z, lo, xs, rel, o, es, ep, ho, hx, hdat, hes, his, hnd⟩ := dt_of I.hok hD
    cases rel
    have hn : es.size = 0 := by
      rw [← Array.length_toList, hes]
      rfl
    refine PySem.W.kdu_collect (PySem.KdlSrc.rawDict lo) (hA.trans (I.ok.hd hc)) (kdr (P := X.prog) (w := X.w) ho hx hdat) (by rw [hn]; exact Nat.zero_le _) fun h' tk acc hk hacc => ?_
    have hal : acc.toList = [] := by
      rw [← List.length_eq_zero_iff, Array.length_toList, hacc.1, hn]
    exact hR h' tk acc.toList hk (by rw [hal]; exact .nil) (by rw [hal]; exact Nat.zero_le _)
  · obtain ⟨⟨lo, xs, km, hky, o, es, ep, ho, hx, hdat, hes, hnd⟩, _, _⟩ := I.hok D _ hD
    have e1 := congrArg List.length hes
    rw [Array.length_toList, List.length_map] at e1
    have e2 := congrArg List.length hky
    rw [List.length_map, List.length_map] at e2
    have hn : es.size = ls.length := by rw [e1, e2]
    have h16 : es.size ≤ sizeLine := by omega
    have at_ : ∀ (i : Nat) (hi : i < es.size) (l : List Int), ls[i]? = some l → IsT M es[i].key l := by
      intro i hi p hp
      have g1 : es.toList[i]? = some es[i] := by simp
      rw [hes, List.getElem?_map] at g1
      obtain ⟨x, hx1, hx2⟩ := Option.map_eq_some_iff.mp g1
      have g3 : (xs.map (·.1))[i]? = some (p.map Sum.inl) := by rw [hky, List.getElem?_map, hp]; rfl
      rw [List.getElem?_map, hx1] at g3
      have g4 : x.1 = p.map Sum.inl := Option.some.inj g3
      have h4 := s0 _ _ (km x (List.mem_of_getElem? hx1))
      rw [g4, inl_V] at h4
      exact ⟨x.2.1, by rw [← hx2]; rfl, h4⟩
    refine PySem.W.kdu_collect (PySem.KdlSrc.rawDict lo) (hA.trans (I.ok.hd hc)) (kdr (P := X.prog) (w := X.w) ho hx hdat) h16 fun h' tk acc hk hacc => ?_
    have hal : acc.toList.length = ls.length := by rw [Array.length_toList, hacc.1, hn]
    exact hR h' tk acc.toList hk (each_of_get hal fun i v p e1 e2 => by
      obtain ⟨hi, e3⟩ := hacc.2 i v (by rw [← Array.getElem?_toList]; exact e1)
      rw [e3]
      exact at_ i hi p e2) (by rw [hal, ← hn]; exact h16)
def rSortTs (K : PySem.W.Frag) (P : Program) (w : World) : List V → Hp → VK → Prop := fun vs H Q => ∃ (D : Addr) (ls : List (List Int)) (M : Hp), vs = [.ref D] ∧ Same M H ∧ TSrc K P w M H D ls ∧ (∀ l ∈ ls, l ≠ []) ∧ ls.length ≤ 16000000 ∧
  ∀ p vs', H p = none → PySem.W.EachIs (IsTV M) vs' (ls.mergeSort leL) → Q (.ref p) (upd H p (.lst vs'))
theorem cr_sortTs (hc : X.calm = true) (hu : X.A.units + 10 < cLine) : CallR X (.builtin "sorted") (rSortTs X.K X.prog X.w) := by
  intro pins s σ H vs us Q I r h
  obtain ⟨D, ls, M, rfl, sM, hD, hne, hls, q⟩ := h
  obtain ⟨u, rfl, ru⟩ := vals1 r
  obtain rfl : u = Value.ref D := ru
  refine Calls.call_function_entry PyProof.Rows.kind_sorted PyProof.Rows.plain_sorted PyProof.Rows.entry_sorted (PyProof.Rows.args_sorted1 _) ?_
  unfold Builtin.«sorted»
  refine wpAny_bind (m := checkCount "sorted" 1 1 _) (wpAny_pure ?_)
  refine wpAny_bind (coll_ts (A := X.A.in1) I sM hc rfl hls hD fun h' tk acc hk hE hzl => ?_)
  refine wpAny_bind (wpAny_newList ?_ hzl)
  have hoL : (h'.push (seqObj "list" acc.toArray 0)).get? h'.objs.size = some (seqObj "list" acc.toArray 0) := Heap.get?_push_size _ rfl
  have I1 : Inv X pins σ H { s with heap := h', toks := tk } := I.kept hk
  have I2 : Inv X pins σ H { s with heap := h'.push (seqObj "list" acc.toArray 0), toks := tk } := I1.kept (t' := tk) fun _ _ e => Heap.get?_push_of_some _ e
  show wpAny _ _ _ _ _ { s with heap := h'.push (seqObj "list" acc.toArray 0), toks := tk }
  refine wpAny_bind (wpAny_holding (PySem.W.list_sort_data (s := { s with heap := h'.push (seqObj "list" acc.toArray 0), toks := tk }) (R := IsT M) hoL hE (each_mono2 (fun v p h => let ⟨as, h1, h2⟩ := t_reads I2 (let ⟨t, e, ht⟩ := h; ⟨t, e, sM _ _ ht⟩); ⟨as, h1, by rw [h2]; simp⟩) hE) (kL_alike ls) (kL_sortable hne) (by rw [← hE.length]; exact hzl)
    (fun b _ => by rw [kL_depth]; show X.A.units + 1 + 1 + 1 < cLine; omega) fun out hol eo => ?_))
  rw [kL_le] at eo
  obtain ⟨vs', v1, v2⟩ := ts_back eo
  obtain ⟨e', he'⟩ := PyProof.Rows.sortedHeap_at (vs := acc) (out := out.toArray) hoL
  refine wpAny_pure ⟨_, rfl, .ref h'.objs.size, upd H h'.objs.size (.lst vs'), I1.laid (t' := tk) (fun b u e => ?_) (Nat.le_refl _) ⟨by rw [v1.length, hol, ← hE.length]; exact hzl, out, e', v1, he'⟩, rfl, q _ _ (I1.hok.fresh (Nat.le_refl _)) v2⟩
  exact (PyProof.Rows.sortedHeap_old (Nat.ne_of_lt (Heap.lt_size e)) (Nat.lt_succ_of_lt (Heap.lt_size e) |> fun z => by rw [size_push']; exact z)).trans (Heap.get?_push_of_some _ e)
end
/-! ### of a list, of a tuple -/
def fSortL (f : FE) : FR := fun ρ => (f ρ).bind fun p => match p.1 with
  | .list ds => (intsL ds).bind fun ls => if ls.length ≤ 16000000 then some (.ow ((ls.mergeSort leL).map kL), p.2) else none
  | .tuple ds => (intsL ds).bind fun ls => if ls.length ≤ 16000000 then some (.ow ((ls.mergeSort leL).map kL), p.2) else none
  | _ => none
theorem dr_sortL {X : Cx} {e : Expr} {f : FE} {n : Nat} {p pos : Pos} (hr : Room n X.A) (hm : X.mg "sorted" = none) (ha : DE X e f) (hg : Gl X "sorted" := by rfl) (hc : X.calm = true := by rfl) (he : starEach [e] X.env = (false, eval e X.env) :: starEach [] X.env := by rfl) (hpl : (backTo pos (starEach [] X.env)).any (·.1) = false := by rfl) :
    DR X (.Call (.Name "sorted" p) [e] [] pos) (fSortL f) := pe_imp (pe_callB (cr_sortTs hc (by have := hr.un; omega)) hg hm boot_sorted (pa_cons ha pa_nil he) (by decide) (by decide) he hpl) fun σ H Q ⟨Z, B, ρ, s, ρ', ok, e, q⟩ => by
  unfold fSortL at e
  obtain ⟨⟨d1, ρ1⟩, e1, e2⟩ := Option.bind_eq_some_iff.mp e
  split at e2
  · rename_i ds z
    replace z : d1 = .list ds := z
    subst z
    obtain ⟨ls, e3, e4⟩ := Option.bind_eq_some_iff.mp e2
    split at e4
    · rename_i hls
      cases e4
      obtain ⟨eds, hne⟩ := intsL_eq e3
      subst eds
      refine ⟨Z, B, ρ, _, _, ok, e1, fun B1 H1 v s1 ok1 dv => ?_⟩
      cases dv with
      | lst h1 h2 =>
        refine ⟨_, ls, B1, rfl, ok1.le, .inl ⟨_, SqL.of (ok1.le _ _ h1), ts_of h2⟩, hne, hls, fun p vs' hp hE => ?_⟩
        obtain ⟨ok4, r4⟩ := own_lst ok1 (ts_dr hE) hp
        exact q B1 _ _ s1 ok4 r4
    · cases e4
  · rename_i ds z
    replace z : d1 = .tuple ds := z
    subst z
    obtain ⟨ls, e3, e4⟩ := Option.bind_eq_some_iff.mp e2
    split at e4
    · rename_i hls
      cases e4
      obtain ⟨eds, hne⟩ := intsL_eq e3
      subst eds
      refine ⟨Z, B, ρ, _, _, ok, e1, fun B1 H1 v s1 ok1 dv => ?_⟩
      cases dv with
      | tup h1 h2 =>
        refine ⟨_, ls, B1, rfl, ok1.le, .inr (.inl ⟨_, ok1.le _ _ h1, ts_of h2⟩), hne, hls, fun p vs' hp hE => ?_⟩
        obtain ⟨ok4, r4⟩ := own_lst ok1 (ts_dr hE) hp
        exact q B1 _ _ s1 ok4 r4
    · cases e4
  · cases e2
@[simp] theorem fSortL_eq (f : FE) (ρ : En) : fSortL f ρ = (f ρ).bind fun p => match p.1 with
  | .list ds => (intsL ds).bind fun ls => if ls.length ≤ 16000000 then some (.ow ((ls.mergeSort leL).map kL), p.2) else none
  | .tuple ds => (intsL ds).bind fun ls => if ls.length ≤ 16000000 then some (.ow ((ls.mergeSort leL).map kL), p.2) else none
  | _ => none := rfl

/-! GUp: d.update([(t, x), ..]), t tuples of whole numbers; sorted(d). -/
def addK (ls : List (List Int)) (k : List Int) : List (List Int) := if k ∈ ls then ls else ls ++ [k]
def addKs (ls ks : List (List Int)) : List (List Int) := ks.foldl addK ls
theorem inl_inj {a b : List Int} (h : (a.map Sum.inl : List Key) = b.map Sum.inl) : a = b :=
  (List.map_inj_right fun _ _ e => Sum.inl.inj e).mp h
theorem KM.nil {M : Hp} : KM M [] := fun x h => by cases h
theorem atKey_some {xs : List (List Key × Addr × Value)} {k : List Key} : (atKey xs k).isSome = true ↔ k ∈ xs.map (·.1) := by
  unfold atKey
  rw [Option.isSome_map, List.find?_isSome, List.mem_map]
  constructor
  · rintro ⟨x, hx, e⟩
    exact ⟨x, hx, of_decide_eq_true e⟩
  · rintro ⟨x, hx, e⟩
    exact ⟨x, hx, decide_eq_true e⟩
theorem putAt_keys {xs : List (List Key × Addr × Value)} {k : List Key} {v : Value} : (xs.map (putAt k v)).map (·.1) = xs.map (·.1) := by
  rw [List.map_map]
  refine List.map_congr_left fun x _ => ?_
  show (putAt k v x).1 = x.1
  unfold putAt
  split <;> rfl
theorem stored_keys {xs : List (List Key × Addr × Value)} {ls : List (List Int)} (h : xs.map (·.1) = ls.map fun l => l.map Sum.inl) {k : List Int} {a : Addr} {v : Value} :
    (storedH xs (k.map Sum.inl) a v).map (·.1) = (addK ls k).map fun l => l.map Sum.inl := by
  unfold storedH addK
  have hm : (k.map Sum.inl : List Key) ∈ xs.map (·.1) ↔ k ∈ ls := by
    rw [h, List.mem_map]
    constructor
    · rintro ⟨l, hl, e⟩
      rw [← inl_inj e]
      exact hl
    · exact fun hl => ⟨k, hl, rfl⟩
  by_cases hk : k ∈ ls
  · rw [if_pos hk, if_pos (atKey_some.mpr (hm.mpr hk)), putAt_keys, h]
  · rw [if_neg hk, if_neg (fun z => hk (hm.mp (atKey_some.mp z))), List.map_append, h, List.map_append]
    rfl
theorem storedAll_keys {ps : List (List Key × Addr × Value)} : ∀ {ks ls : List (List Int)} {xs : List (List Key × Addr × Value)}, ps.map (·.1) = ks.map (fun l => l.map Sum.inl) → xs.map (·.1) = ls.map (fun l => l.map Sum.inl) →
    (storedAllH xs ps).map (·.1) = (addKs ls ks).map fun l => l.map Sum.inl := by
  induction ps with
  | nil =>
    intro ks ls xs h1 h2
    cases ks with
    | nil => exact h2
    | cons k ks => cases h1
  | cons p ps ih =>
    intro ks ls xs h1 h2
    cases ks with
    | nil => cases h1
    | cons k ks =>
      rw [List.map_cons, List.map_cons] at h1
      injection h1 with e1 e2
      have := ih (xs := storedH xs p.1 p.2.1 p.2.2) (ls := addK ls k) e2 (by rw [e1]; exact stored_keys h2)
      exact this
theorem KM.all {M : Hp} : ∀ {ps xs : List (List Key × Addr × Value)}, KM M xs → KM M ps → KM M (storedAllH xs ps)
  | [], _, h, _ => h
  | p :: ps, xs, h, hp => KM.all (ps := ps) (KM.put h (hp p List.mem_cons_self)) fun x hx => hp x (List.mem_cons_of_mem _ hx)
theorem KM.mono {M M' : Hp} {xs : List (List Key × Addr × Value)} (h : KM M xs) (s : Same M M') : KM M' xs := fun x hx => s _ _ (h x hx)
/-- the pairs of a list: a tuple of whole numbers and something -/
def IsPV (M : Hp) (v : V) (l : List Int) : Prop := ∃ T k x, v = .ref T ∧ M T = some (.tup [.ref k, x]) ∧ M k = some (.tup (l.map V.int))
section
variable {X : Cx} {pins : List (Addr × Obj)} {σ : L2.St} {H M : Hp} {s : Shared}
/-- the entries that the pairs tell -/
theorem pairs_at (I : Inv X pins σ H s) (sM : Same M H) : ∀ {vs : List V} {its : List Value} {ks : List (List Int)}, Vals vs its → PySem.W.EachIs (IsPV M) vs ks →
    ∃ qs : List (Addr × List Key × Addr × Value), its = qs.map (fun q => Value.ref q.1) ∧ qs.map (fun q => q.2.1) = ks.map (fun l => l.map Sum.inl) ∧ KM M (qs.map (·.2)) ∧ (∀ q ∈ qs, (∃ k x, M q.1 = some (.tup [.ref k, x])) ∧ s.heap.IsTuple q.1 #[.ref q.2.2.1, q.2.2.2])
  | _, _, _, .nil, .nil => ⟨[], rfl, rfl, KM.nil, fun _ h => by cases h⟩
  | _, _, _, .cons r rs, .cons (b := l) ⟨T, k, x, e, hT, hk⟩ es => by
    subst e
    obtain ⟨qs, h1, h2, h3, h4⟩ := pairs_at I sM rs es
    obtain ⟨_, its, rv, o, ho, hc, n, hd⟩ := (show ObjOk X.prog X.w H s.heap T (.tup [.ref k, x]) from I.hok T _ (sM _ _ hT))
    obtain ⟨w1, w2, rfl, r1, r2⟩ := vals2 rv
    obtain rfl : w1 = Value.ref k := r1
    cases r
    refine ⟨(T, l.map Sum.inl, k, w2) :: qs, by rw [h1]; rfl, by rw [List.map_cons, List.map_cons, h2], fun y hy => ?_, fun q hq => ?_⟩
    · rcases List.mem_cons.mp hy with z | z
      · rw [z]
        show M k = some (.tup ((l.map Sum.inl : List Key).map kV))
        rw [inl_V]
        exact hk
      · exact h3 y z
    · rcases List.mem_cons.mp hq with z | z
      · rw [z]
        exact ⟨⟨k, x, hT⟩, o, ho, hc, n, hd⟩
      · exact h4 q z
theorem key_stays {P : Program} {w : World} {h h' : Heap} {k : List Key} {a : Addr} (hk : (tupleKind (mixKind P w)).is h k a) (e : ∀ o, h.get? a = some o → h'.get? a = some o) : (tupleKind (mixKind P w)).is h' k a := by
  obtain ⟨o, items, n, h1, h2⟩ := hk
  exact ⟨o, items, n, e _ h1, h2⟩
def rUpT (P : Program) (w : World) : V → List V → Hp → VK → Prop := fun x vs H Q => ∃ (D b : Addr) (M : Hp) (ls ks : List (List Int)) (items : List V), x = .ref D ∧ vs = [.ref b] ∧ ((ls = [] ∧ H D = some (.dT [])) ∨ ∃ M0, Same M0 M ∧ H D = some (EK P w M0 D ls)) ∧
  Same M H ∧ H b = some (.lst items) ∧ PySem.W.EachIs (IsPV M) items ks ∧ ls.length + ks.length ≤ 16000000 ∧ Q .non (upd H D (EK P w M D (addKs ls ks)))
theorem pn_of_tup {H : Hp} {D T : Addr} {u : HO} {xs : List V} (h : H D = some u) (hu : ∀ xs, u ≠ .tup xs) (hT : H T = some (.tup xs)) : T ≠ D := fun z => by
  rw [z, h] at hT
  exact hu _ (Option.some.inj hT)
theorem d_upT {D b : Addr} {ls ks : List (List Int)} {items : List V} {E : Value → Shared → Prop} {Q : Value → Shared → Prop} (hc : X.calm = true) (hu : X.A.units + 1 < cLine) (I : Inv X pins σ H s) (sM : Same M H)
    (hD : (ls = [] ∧ H D = some (.dT [])) ∨ ∃ M0, Same M0 M ∧ H D = some (EK X.prog X.w M0 D ls)) (hb : H b = some (.lst items)) (hE : PySem.W.EachIs (IsPV M) items ks) (hl : ls.length + ks.length ≤ 16000000)
    (h : ∀ s', Inv X pins σ (upd H D (EK X.prog X.w M D (addKs ls ks))) s' → Q .none s') :
    wpAny (model X.prog X.w) X.A (call (.builtin "dict.update") [.ref D, .ref b]) Q E s := by
  obtain ⟨lo, acc, km, hky, dd, hDt, mu⟩ : (D == sysModules) = false ∧ ∃ acc : List (List Key × Addr × Value), KM M acc ∧ acc.map (·.1) = ls.map (fun l => l.map Sum.inl) ∧ s.heap.DictOfH (tupleKind (mixKind X.prog X.w)) D acc ∧ (∃ u, H D = some u ∧ (∀ xs, u ≠ .tup xs) ∧ ∀ xs, u ≠ .lst xs) ∧ Mut (H D) := by
    rcases hD with ⟨rfl, hD⟩ | ⟨M0, s0, hD⟩
    · obtain ⟨z, lo, xs, rel, dd⟩ := dt_of I.hok hD
      cases rel
      exact ⟨lo, [], KM.nil, rfl, dd, ⟨_, hD, fun _ z => (by cases z), fun _ z => (by cases z)⟩, by rw [hD]; exact True.intro⟩
    · obtain ⟨⟨lo, xs, km, hky, o, es, ep, ho, hx, hdat, hes, hnd⟩, _, _⟩ := I.hok D _ hD
      refine ⟨lo, xs, km.mono s0, hky, ⟨o, es, ep, ho, hx, hdat, hes, fun x hx => ?_, hnd⟩, ⟨_, hD, fun _ z => (by cases z), fun _ z => (by cases z)⟩, by rw [hD]; exact True.intro⟩
      exact key_of I.hok (sM _ _ (s0 _ _ (km x hx)))
  obtain ⟨u, hDu, hnt, hnl⟩ := hDt
  obtain ⟨z, its, n, rv, eb⟩ := (show ObjOk X.prog X.w H s.heap b (.lst items) from I.hok b _ hb)
  obtain ⟨qs, h1, h2, h3, h4⟩ := pairs_at I sM rv hE
  have hbD : D ≠ b := fun z => by
    rw [← z, hDu] at hb
    exact hnl _ (Option.some.inj hb)
  have e1 := congrArg List.length h2
  rw [List.length_map, List.length_map] at e1
  have e2 := congrArg List.length hky
  rw [List.length_map, List.length_map] at e2
  let ps : List (Value × Value) := qs.map fun q => (Value.ref q.2.2.1, q.2.2.2)
  let Ts : Nat → Addr := fun j => match qs[j]? with | some q => q.1 | none => b
  have hTs : ∀ j q, qs[j]? = some q → Ts j = q.1 := fun j q e => by
    show (match qs[j]? with | some q => q.1 | none => b) = q.1
    rw [e]
  have hpl : ps.length = qs.length := List.length_map _
  refine call_update_pairsH (knd := tupleKind (mixKind X.prog X.w)) (acc := acc) (ps := qs.map (·.2)) (PairArg.list b its.toArray Ts ps) (I.ok.hd hc) (tupleKind_room_in1 hu) ⟨⟨_, _, eb, rfl, rfl, rfl⟩, ?_, ?_⟩ ?_ ⟨?_, ?_⟩ ?_ dd ?_ fun h' tk dd' hk => ?_
  · rw [List.size_toArray, h1, List.length_map, hpl]
  · intro j k v hj
    rw [List.getElem?_map] at hj
    obtain ⟨q, hq, e⟩ := Option.map_eq_some_iff.mp hj
    cases e
    refine ⟨?_, .inl ?_⟩
    · rw [h1, List.getElem?_toArray, List.getElem?_map, hq, hTs j q hq]
      rfl
    · rw [hTs j q hq]
      exact (h4 q (List.mem_of_getElem? hq)).2
  · intro hm
    rcases List.mem_cons.mp hm with z | z
    · exact hbD z
    · obtain ⟨j, hj, e⟩ := List.mem_map.mp z
      rw [List.mem_range, hpl] at hj
      rw [hTs j _ (List.getElem?_eq_getElem hj)] at e
      obtain ⟨k, x, hT⟩ := (h4 _ (List.getElem_mem hj)).1
      exact pn_of_tup hDu hnt (sM _ _ hT) e
  · rw [List.length_map, hpl]
  · intro i key v hrel
    have hrel' : ps[i]? = some (key, v) := hrel
    rw [List.getElem?_map] at hrel'
    obtain ⟨q, hq, e⟩ := Option.map_eq_some_iff.mp hrel'
    cases e
    exact ⟨q.2.1, q.2.2.1, by rw [List.getElem?_map, hq]; rfl, rfl⟩
  · intro h' hk x hx
    have hM : M x.2.1 = some (.tup (x.1.map kV)) := by
      rcases List.mem_append.mp hx with z | z
      · exact km x z
      · exact h3 x z
    exact key_stays (key_of I.hok (sM _ _ hM)) fun o e => hk _ o (pn_of_tup hDu hnt (sM _ _ hM)) (fun z => nomatch z) e
  · rw [hpl, sizeLine_eq]
    omega
  · obtain ⟨o, es, ep, g1, g2, g3, g4, g5, g6⟩ := dd'
    refine h _ (I.write (x := D) (e := D) (t' := tk) mu (.inl rfl) (fun b q hb z => hk b q hb (fun z => nomatch z) z) ⟨o, g1⟩ ⟨⟨lo, _, KM.all km h3, storedAll_keys (by rw [List.map_map]; exact h2) hky, o, es, ep, g1, g2, g3, g4, g6⟩, ⟨o, g1⟩, ?_⟩)
    rintro h1 h2 ⟨lo, xs, km, hky, o, es, ep, g1, g2⟩ st
    exact ⟨lo, xs, km, hky, o, es, ep, st _ g1, g2⟩
/-- d.update(e) -/
def tUpT (P : Program) (w : World) (td tx : TE) : TE := fun σ H Q => td σ H fun x H1 => (∃ D, x = .ref D ∧ (H1 D = some (.dT []) ∨ ∃ M ls, H1 D = some (EK P w M D ls))) ∧ tx σ H1 fun y H2 => rUpT P w x [y] H2 Q
theorem pe_upT {o e : Expr} {td tx : TE} {apos cpos : Pos} (hc : X.calm = true) (hu : X.A.units + 1 < cLine) (ho : PE X o td) (he : PE X e tx) (m : M1 X o "update" apos e cpos) : PE X (.Call (.Attribute o "update" apos) [e] [] cpos) (tUpT X.prog X.w td tx) := by
  refine ⟨fun pins s σ H Q I h => ?_⟩
  refine wpAny_Call_method m.base m.few m.line PySem.F.plainAttrs_dict PySem.F.slot_dict_update PySem.F.type_dict_update (thn (ho.run pins s σ H _ I h) fun u s1 ⟨x, H1, I1, rx, ⟨D, ex, hD⟩, q1⟩ => ?_)
  subst ex
  obtain rfl : u = Value.ref D := rx
  obtain ⟨t1, t2⟩ : s1.TypeIs (.ref D) "dict" ∧ (∀ b, Value.ref D = .ref b → ∃ ob, s1.heap.get? b = some ob ∧ ob.dict = none) := by
    rcases hD with hD | ⟨M, ls, hD⟩
    · obtain ⟨t1, t2, _⟩ := isD_at I1 (.inr ⟨_, .inl hD⟩)
      exact ⟨t1, t2⟩
    · obtain ⟨⟨lo, xs, km, hky, o, es, ep, ho, hx, hdat, hes, hnd⟩, _, _⟩ := I1.hok D _ hD
      refine ⟨⟨o, ho, hx.1⟩, fun b e => ?_⟩
      cases e
      exact ⟨o, ho, hx.2.1⟩
  refine ⟨t1, t2, ?_⟩
  rw [m.trees]
  refine Calls.callWith_builtin rfl (Calls.evalArgs_plain (Calls.spliced_cons (thn (he.run pins s1 σ H1 _ I1 q1) fun iv s2 ⟨y, H2, I2, ry, q2⟩ => Calls.spliced_nil ?_)))
  obtain ⟨D', b, M, ls, ks, items, e1, e2, g1, sM, g2, g3, g4, q3⟩ := q2
  cases e1
  cases e2
  obtain rfl : iv = Value.ref b := ry
  exact d_upT hc hu I2 sM g1 g2 g3 g4 fun s4 I4 => ⟨.non, _, I4, rfl, q3⟩
end

/-! GUp2: a dict of keys that are tuples of whole numbers, kept aside while a loop runs; then sorted. -/
theorem ek_no (P : Program) (w : World) (M : Hp) (D : Addr) (ls : List (List Int)) (c : Addr) (q : Str) : EK P w M D ls ≠ LamX.CodeO c q := fun e => by
  unfold EK LamX.CodeO at e
  injection e with e
  let ob : Obj := { cls := .none, data := .fields #[.none, .str q 0] }
  let h : Heap := { objs := Array.replicate (c + 1) ob }
  have e2 := congrFun e h
  have hc : h.get? c = some ob := by
    show (match (Array.replicate (c + 1) ob)[c]? with | some ⟨_, _, .freed, _⟩ => none | o => o) = some ob
    rw [Array.getElem?_replicate, if_pos (Nat.lt_succ_self c)]
  have e3 : (∃ (oc : Obj) (vs : Array Value) (t : Tok), h.get? c = some oc ∧ oc.data = .fields vs ∧ vs[1]? = some (.str q t)) := ⟨ob, _, 0, hc, rfl, rfl⟩
  rw [← e2] at e3
  obtain ⟨_, xs, _, _, o, es, ep, g1, _, g3, _⟩ := e3
  have hD : h.get? D = some o → o = ob := fun g => by
    have g' : (match (Array.replicate (c + 1) ob)[D]? with | some ⟨_, _, .freed, _⟩ => none | o => o) = some o := g
    rw [Array.getElem?_replicate] at g'
    by_cases hlt : D < c + 1
    · rw [if_pos hlt] at g'
      exact (Option.some.inj g').symm
    · rw [if_neg hlt] at g'
      cases g'
  rw [hD g1] at g3
  cases g3
theorem nt_updX {M : Hp} (h : NT M) {a : Addr} {o : HO} (ho : isT (some o) = false) : NT (upd M a o) := fun b => by
  by_cases e : b = a
  · subst e
    rw [upd_same]
    exact ho
  · rw [upd_ne e]
    exact h b
theorem TbS.ntX {H : Hp} (t : TbS H) {a : Addr} {o o' : HO} (ha : H a = some o) (h1 : isT (some o) = false) (h2 : ∀ c q, o ≠ LamX.CodeO c q) : TbS (upd H a o') := fun p hp => by
  obtain ⟨ps, g1, g2, g3⟩ := t p hp
  refine ⟨ps, ?_, g2, fun pos cv hc => ?_⟩
  · rw [upd_ne (fun z => by
      rw [z, ha] at g1
      cases g1
      cases h1)]
    exact g1
  · obtain ⟨c, e1, e2⟩ := g3 pos cv hc
    refine ⟨c, e1, ?_⟩
    rw [upd_ne (fun z => by
      rw [z, ha] at e2
      exact h2 _ _ (Option.some.inj e2))]
    exact e2
section
variable {Z : Zn} {B : Hp} {σ : L2.St} {H : Hp} {ρ : En}
theorem EnvOk.zmutX (ok : EnvOk Z B σ H ρ) {p : Addr} {o o' : HO} (h : Z.fr p = some o) (h1 : isT (some o) = false) (h2 : ∀ c q, o ≠ LamX.CodeO c q) (ho' : isT (some o') = false) : EnvOk (Z.upd p o') B σ (upd H p o') ρ := by
  refine ⟨same_upd_right ok.le (ok.dj p o h), same_upd_both ok.lz, fun a u q => ?_, ok.len, ok.sh, fun i s e1 e2 => ?_, ok.io, ok.ad, ok.inj, nt_updX ok.tb.z ho', ok.tb.b, ok.tb.s.ntX (ok.lz p o h) h1 h2⟩
  · have q' : upd Z.fr p o' a = some u := q
    by_cases e : a = p
    · subst e
      exact ok.dj a o h
    · rw [upd_ne e] at q'
      exact ok.dj a u q'
  · obtain ⟨a, u, h1, h2, h3, h4, h5⟩ := ok.ow i s e1 e2
    have ne : a ≠ p := fun z => by
      rw [z, h] at h4
      cases h4
    exact ⟨a, u, h1, by rw [upd_ne ne]; exact h2, h3, by show upd Z.fr p o' a = none; rw [upd_ne ne]; exact h4, h5⟩
end
/-! ### statements beside the keys -/
abbrev Ks := List (List Int)
structure GhU (P : Program) (w : World) (Z0 Z : Zn) (B : Hp) (g : Ks) : Prop where
  z0 : Same Z0.fr Z.fr
  bag : Z.bag = Z0.bag
  nd : Z0.fr Z.pin = none
  ex : (g = [] ∧ Z.fr Z.pin = some (.dT [])) ∨ ∃ M0, Same M0 B ∧ Z.fr Z.pin = some (EK P w M0 Z.pin g)
theorem GhU.mono {P : Program} {w : World} {Z0 Z : Zn} {B B' : Hp} {g : Ks} (h : GhU P w Z0 Z B g) (s : Same B B') : GhU P w Z0 Z B' g :=
  ⟨h.z0, h.bag, h.nd, h.ex.imp id fun ⟨M0, s0, e⟩ => ⟨M0, s0.trans s, e⟩⟩
abbrev FGU := En × Ks → Option (En × Ks)
def tSU (P : Program) (w : World) (F : FGU) : TS := fun D σ H => ∃ Z0 Z B ρ g o, EnvOk Z B σ H ρ ∧ GhU P w Z0 Z B g ∧ F (ρ, g) = some o ∧ ∀ Z' B' σ' H', Same B B' → EnvOk Z' B' σ' H' o.1 → GhU P w Z0 Z' B' o.2 → D.nx σ' H'
abbrev DSU (X : Cx) (st : Stmt) (F : FGU) := PS X st (tSU X.prog X.w F)
abbrev DSSU (X : Cx) (st : List Stmt) (F : FGU) := PSs X st (tSU X.prog X.w F)
def uLift (F : FS) : FGU := fun p => (F p.1).bind fun o => match o with
  | .nx ρ' => some (ρ', p.2)
  | _ => none
def uSeq (F G : FGU) : FGU := fun p => (F p).bind G
def uIf (c : FT) (F G : FGU) : FGU := fun p => (c p.1).bind fun q => if q.1 = true then F (q.2, p.2) else G (q.2, p.2)
def uSkip : FGU := fun p => some p
def uLoop (gt : FG) (F : FGU) : List PyData → FGU
  | [], p => some p
  | d :: ds, p => (gt d p.1).bind fun ρ1 => (F (ρ1, p.2)).bind (uLoop gt F ds)
def uFor (it : FI) (gt : FG) (F : FGU) : FGU := fun p => (it p.1).bind fun q => uLoop gt F q.1 (q.2, p.2)
def prsK : List PyData → Option Ks
  | [] => some []
  | .tuple [.tuple xs, _] :: r => (intsO xs).bind fun l => (prsK r).map (l :: ·)
  | _ => none
def prKeys : PyData → Option Ks
  | .list ds => prsK ds
  | _ => none
def uUp (i : Nat) (f : FE) : FGU := fun p => match p.1[i]? with
  | some .pi => (f p.1).bind fun q => (prKeys q.1).bind fun ks => if p.2.length + ks.length ≤ 16000000 then some (q.2, addKs p.2 ks) else none
  | _ => none
theorem pv_of {B : Hp} : ∀ {ds : List PyData} {vs : List V} {ks : Ks}, DrAll B vs ds → prsK ds = some ks → PySem.W.EachIs (IsPV B) vs ks
  | [], _, _, h, e => by
    cases h
    cases e
    exact .nil
  | d :: ds, _, ks, h, e => by
    unfold prsK at e
    split at e
    · rename_i z
      cases z
    · rename_i xs x r z
      cases z
      obtain ⟨l, e1, e2⟩ := Option.bind_eq_some_iff.mp e
      obtain ⟨m, e3, e4⟩ := Option.map_eq_some_iff.mp e2
      subst e4
      have e5 := intsO_eq e1
      subst e5
      cases h with
      | cons h1 h2 =>
        refine .cons ?_ (pv_of h2 e3)
        cases h1 with
        | tup g1 g2 =>
          cases g2 with
          | cons g3 g4 =>
            cases g4 with
            | cons g5 g6 =>
              cases g6
              cases g3 with
              | tup k1 k2 =>
                rw [ints_dr k2] at k1
                exact ⟨_, _, _, rfl, g1, k1⟩
    · cases e
section
variable {X : Cx} {st : Stmt} {rest : List Stmt} {F : FS} {G1 G2 : FGU} {pos : Pos}
theorem dsu_lift (h : DS X st F) : DSU X st (uLift F) := ps_imp h fun D σ H ⟨Z0, Z, B, ρ, g, o, ok, gh, e, q⟩ => by
  unfold uLift at e
  obtain ⟨o1, e1, e2⟩ := Option.bind_eq_some_iff.mp e
  refine ⟨Z, B, ρ, o1, ok, e1, fun B1 s1 => ?_⟩
  cases o1 with
  | nx ρ1 =>
    cases e2
    exact fun σ1 H1 ok1 => q Z B1 σ1 H1 s1 ok1 (gh.mono s1)
  | rt s ρ1 => cases e2
  | bk ρ1 => cases e2
  | ct ρ1 => cases e2
theorem dssu_nil : DSSU X [] uSkip := pss_imp pss_nil fun D σ H ⟨Z0, Z, B, ρ, g, o, ok, gh, e, q⟩ => by
  cases e
  exact q Z B σ H (Same.refl B) ok gh
theorem dssu_one (h : DSU X st G1) : DSSU X [st] G1 := pss_one h
theorem dssu_cons (h1 : DSU X st G1) (h2 : DSSU X rest G2) : DSSU X (st :: rest) (uSeq G1 G2) := pss_imp (pss_cons h1 h2) fun D σ H ⟨Z0, Z, B, ρ, g, o, ok, gh, e, q⟩ => by
  obtain ⟨o1, e1, e2⟩ := Option.bind_eq_some_iff.mp e
  exact ⟨Z0, Z, B, ρ, g, o1, ok, gh, e1, fun Z1 B1 σ1 H1 s1 ok1 gh1 => ⟨Z0, Z1, B1, o1.1, o1.2, o, ok1, gh1, e2, fun Z2 B2 σ2 H2 s2 ok2 gh2 => q Z2 B2 σ2 H2 (s1.trans s2) ok2 gh2⟩⟩
theorem dsu_if {c : Expr} {a b : List Stmt} {u : FT} (hc : DT X c u) (ha : DSSU X a G1) (hb : DSSU X b G2) : DSU X (.If c a b pos) (uIf u G1 G2) := ps_imp (ps_if hc ha hb) fun D σ H ⟨Z0, Z, B, ρ, g, o, ok, gh, e, q⟩ => by
  obtain ⟨⟨c, ρ1⟩, e1, e2⟩ := Option.bind_eq_some_iff.mp e
  refine ⟨Z, B, ρ, c, ρ1, ok, e1, fun B1 H1 s1 ok1 => ?_⟩
  cases c with
  | true =>
    rw [if_pos rfl] at e2 ⊢
    exact ⟨Z0, Z, B1, ρ1, g, o, ok1, gh.mono s1, e2, fun Z2 B2 σ2 H2 s2 ok2 gh2 => q Z2 B2 σ2 H2 (s1.trans s2) ok2 gh2⟩
  | false =>
    rw [if_neg Bool.false_ne_true] at e2 ⊢
    exact ⟨Z0, Z, B1, ρ1, g, o, ok1, gh.mono s1, e2, fun Z2 B2 σ2 H2 s2 ok2 gh2 => q Z2 B2 σ2 H2 (s1.trans s2) ok2 gh2⟩
theorem dsu_for {tg iter : Expr} {body : List Stmt} {it : FI} {js : List Nat} {gt : FG} (hi : DI X tg iter it) (hg : DG X tg js gt) (hb : DSSU X body G1) (hc : X.calm = true := by rfl) (hp : PassesOwn (model X.prog X.w) X.A X.env X.xe := by exact PassesOwn.never)
    (hs : ∀ x, foldedSetIterable iter X.env x = pure x := by intro _; rfl) : DSU X (.For tg iter body [] pos) (uFor it gt G1) := ps_imp (ps_for hp hc hi hg hb hs) fun D σ H ⟨Z0, Z, B, ρ, g, o, ok, gh, q0, q⟩ => by
  unfold uFor at q0
  obtain ⟨⟨ds, ρ1⟩, e1, e2⟩ := Option.bind_eq_some_iff.mp q0
  refine ⟨Z, B, ρ, ds, ρ1, ok, e1, fun B1 H1 J s1 ok1 wk => ?_⟩
  refine ⟨fun i m σ2 H2 => m = ds.length - i ∧ i ≤ ds.length ∧ ∃ Z2 B2 p2, Same B1 B2 ∧ EnvOk Z2 B2 σ2 H2 p2.1 ∧ GhU X.prog X.w Z0 Z2 B2 p2.2 ∧ uLoop gt G1 (ds.drop i) p2 = some o, ⟨ds.length, by simp, Nat.zero_le _, Z, B1, (ρ1, g), Same.refl B1, ok1, gh.mono s1, by rw [List.drop_zero]; exact e2⟩, fun i m σ2 H2 hW => ?_⟩
  obtain ⟨rfl, hi, Z2, B2, p2, s2, ok2, gh2, hf⟩ := hW
  by_cases h : i < ds.length
  · obtain ⟨d, h1, h2⟩ := drop_at h
    rw [h2] at hf
    obtain ⟨ρ3, e3, e4⟩ := Option.bind_eq_some_iff.mp hf
    obtain ⟨o3, e5, e6⟩ := Option.bind_eq_some_iff.mp e4
    obtain ⟨go, yl⟩ := (wk Z2 B2 σ2 H2 p2.1 i s2 ok2).2 d h1
    refine .inr ⟨go, fun σ' H' => ∃ Z4 B4 p4, Same B1 B4 ∧ EnvOk Z4 B4 σ' H' p4.1 ∧ GhU X.prog X.w Z0 Z4 B4 p4.2 ∧ uLoop gt G1 (ds.drop (i + 1)) p4 = some o, fun σ' H' hN => ⟨ds.length - (i + 1), by omega, rfl, h, hN⟩, fun x H' hy => ?_⟩
    obtain ⟨B3, s3, ok3, dx⟩ := yl x H' hy
    exact ⟨Z2, B3, p2.1, d, ρ3, ok3, dx, e3, fun σ3 ok4 _ => ⟨Z0, Z2, B3, ρ3, p2.2, o3, ok4, gh2.mono s3, e5, fun Z4 B4 σ4 H4 s4 ok5 gh4 => ⟨Z4, B4, o3, s2.trans (s3.trans s4), ok5, gh4, e6⟩⟩⟩
  · have e : i = ds.length := by omega
    rw [e, List.drop_length] at hf
    cases hf
    exact .inl ⟨(wk Z2 B2 σ2 H2 _ i s2 ok2).1 e, q Z2 B2 σ2 H2 (s1.trans s2) ok2 gh2⟩
theorem dsu_up {n : Nat} {e : Expr} {f : FE} (i : Nat) {x : Str} {px apos cpos : Pos} (hr : Room n X.A) (he : DE X e f) (hc : X.calm = true := by rfl) (hN : X.N[i]? = some x := by rfl) (hv : Vis X.env.scope x := by first | exact Or.inl rfl | exact Or.inr (Or.inl rfl) | exact Or.inr (Or.inr rfl)) (hd : (x == ("__debug__" : Str)) = false := by decide)
    (hcd : (x == ("__classdict__" : Str)) = false := by decide) (m : M1 X (.Name x px) "update" apos e cpos := by exact ⟨rfl, rfl, rfl, rfl⟩)
    (hsw : swapsWith (.Call (.Attribute (.Name x px) "update" apos) [e] [] cpos) none pos.line X.env = pure false := by rfl) :
    DSU X (.Expr (.Call (.Attribute (.Name x px) "update" apos) [e] [] cpos) pos) (uUp i f) :=
  ps_imp (ps_expr (pe_upT hc (u1 hr) (pe_var hN hv hd hcd) he m) hsw) fun D σ H ⟨Z0, Z, B, ρ, g, o, ok, gh, e, q⟩ => by
  unfold uUp at e
  split at e
  · rename_i hpi
    obtain ⟨⟨d1, ρ1⟩, e1, e2⟩ := Option.bind_eq_some_iff.mp e
    obtain ⟨ks, e3, e4⟩ := Option.bind_eq_some_iff.mp e2
    split at e4
    · rename_i hl
      cases e4
      have hσ : σ[i]? = some (some (.ref Z.pin)) := ok.ad i _ hpi
      refine ⟨.ref Z.pin, hσ, ⟨Z.pin, rfl, ?_⟩, Z, B, ρ, d1, ρ1, ok, e1, fun B1 H1 y s1 ok1 dy => ?_⟩
      · rcases gh.ex with ⟨_, zD⟩ | ⟨M0, _, zD⟩
        · exact .inl (ok.lz _ _ zD)
        · exact .inr ⟨_, _, ok.lz _ _ zD⟩
      · unfold prKeys at e3
        split at e3
        · rename_i ds z
          replace z : d1 = .list ds := z
          subst z
          cases dy with
          | lst g1 g2 =>
            refine ⟨Z.pin, _, B1, g, ks, _, rfl, rfl, ?_, ok1.le, ok1.le _ _ g1, pv_of g2 e3, hl, ?_⟩
            · rcases gh.ex with ⟨h1, zD⟩ | ⟨M0, s0, zD⟩
              · exact .inl ⟨h1, ok1.lz _ _ zD⟩
              · exact .inr ⟨M0, s0.trans s1, ok1.lz _ _ zD⟩
            · have ok2 : EnvOk (Z.upd Z.pin (EK X.prog X.w B1 Z.pin (addKs g ks))) B1 σ (upd H1 Z.pin (EK X.prog X.w B1 Z.pin (addKs g ks))) ρ1 := by
                rcases gh.ex with ⟨h1, zD⟩ | ⟨M0, s0, zD⟩
                · exact ok1.zmutX zD rfl (fun c q z => nomatch z) rfl
                · exact ok1.zmutX zD rfl (ek_no _ _ _ _ _) rfl
              refine q _ B1 σ _ s1 ok2 ⟨fun c u ec => ?_, gh.bag, gh.nd, .inr ⟨B1, Same.refl B1, upd_same⟩⟩
              show upd Z.fr Z.pin _ c = some u
              rw [upd_ne (ne_of_none ec gh.nd)]
              exact gh.z0 _ _ ec
        · cases e3
    · cases e4
  · cases e
/-! ### return sorted(d) -/
def fKeys (i : Nat) (it : FI) (gt : FG) (F : FGU) : FS := fun ρ => match ρ[i]? with
  | some (.ot []) => if nopi ρ = true then (uFor it gt F (ρ.set i .pi, [])).bind fun p => match p.1[i]? with
    | some .pi => if nopi (p.1.set i .un) = true ∧ p.2.all (fun l => !l.isEmpty) = true ∧ p.2.length ≤ 16000000 then some (.rt (.ow ((p.2.mergeSort leL).map kL)) (p.1.set i .un)) else none
    | _ => none
    else none
  | _ => none
theorem dss_keys {tg iter : Expr} {body : List Stmt} {it : FI} {js : List Nat} {gt : FG} {k : Nat} {x : Str} {p1 p2 pc pr : Pos} (i : Nat) (hi : DI X tg iter it) (hg : DG X tg js gt) (hb : DSSU X body G1) (hm : X.mg "sorted" = none) (hr : Room k X.A)
    (hN : X.N[i]? = some x := by rfl) (hv : Vis X.env.scope x := by first | exact Or.inl rfl | exact Or.inr (Or.inl rfl) | exact Or.inr (Or.inr rfl)) (hd : (x == ("__debug__" : Str)) = false := by decide) (hcd : (x == ("__classdict__" : Str)) = false := by decide)
    (hgl : Gl X "sorted" := by rfl) (he : starEach [.Name x p2] X.env = (false, eval (.Name x p2) X.env) :: starEach [] X.env := by rfl) (hpl : (backTo pc (starEach [] X.env)).any (·.1) = false := by rfl)
    (hc : X.calm = true := by rfl) (hp : PassesOwn (model X.prog X.w) X.A X.env X.xe := by exact PassesOwn.never) (hs : ∀ x, foldedSetIterable iter X.env x = pure x := by intro _; rfl) :
    DSs X [.For tg iter body [] pos, .Return (some (.Call (.Name "sorted" p1) [.Name x p2] [] pc)) pr] (fKeys i it gt G1) := by
  refine pss_imp (pss_cons (dsu_for (pos := pos) hi hg hb hc hp hs) (pss_one (ps_ret (pos := pr) (pe_callB (cr_sortTs hc (by have := hr.un; omega)) hgl hm boot_sorted (pa_cons (pe_var hN hv hd hcd) pa_nil he) (by decide) (by decide) he hpl)))) fun D σ H ⟨Z0, B, ρ, o, ok, e, q⟩ => ?_
  unfold fKeys at e
  split at e
  · rename_i h1
    split at e
    · rename_i np
      obtain ⟨p, e1, e2⟩ := Option.bind_eq_some_iff.mp e
      split at e2
      · rename_i h2
        split at e2
        · rename_i hnn
          cases e2
          -- the dict goes aside
          obtain ⟨a, od, q1, q2, q3, q4, q5⟩ := ok.ow i _ h1 rfl
          cases od with
          | dT l0 =>
            have el : l0 = [] := by
              have q6 : KvR B l0 [] := q5
              cases q6
              rfl
            subst el
            have g1 := (ok.forget i).repin (nopi_set np (fun z => nomatch z)) a
            have hn : NotOwn σ (ρ.set i .un) a := fun j s e1 e2 e3 => by
              rcases getElem?_set_cases e1 with ⟨rfl, z2, z3⟩ | ⟨z1, z2⟩
              · subst z2
                cases e2
              · exact z1 (ok.inj j i s _ a z2 e2 h1 rfl e3 q1)
            have g2 := g1.keep q2 q3 hn
            have g3 := EnvOk.setAd g2 i (s := .pi) rfl (fun d z => nomatch z) (fun d z => nomatch z) q1
            rw [List.set_set] at g3
            refine ⟨Z0, _, B, _, [], p, g3, ⟨same_upd_new q4, rfl, q4, .inl ⟨rfl, upd_same⟩⟩, e1, fun Z1 B1 σ1 H1 s1 ok1 gh => ?_⟩
            have hσ : σ1[i]? = some (some (.ref Z1.pin)) := ok1.ad i _ h2
            have b1 := (ok1.forget i).repin hnn.1 Z0.pin
            have b2 : EnvOk Z0 B1 σ1 H1 (p.1.set i .un) := b1.zle gh.z0 gh.bag rfl
            refine ⟨.ref Z1.pin, hσ, Z1.pin, p.2, B1, rfl, ok1.le, ?_, fun l hl => ?_, hnn.2.2, fun pN vs' hpN hE => ?_⟩
            · rcases gh.ex with ⟨h1, zD⟩ | ⟨M0, s0, zD⟩
              · exact .inr (.inr (.inl ⟨h1, ok1.lz _ _ zD⟩))
              · exact .inr (.inr (.inr ⟨M0, s0, ok1.lz _ _ zD⟩))
            · have := List.all_eq_true.mp hnn.2.1 l hl
              intro z
              rw [z] at this
              cases this
            · obtain ⟨ok4, r4⟩ := own_lst b2 (ts_dr hE) hpN
              exact q B1 s1 σ1 _ _ ok4 r4
          | _ => exact q5.elim
        · cases e2
      · cases e2
    · cases e
  · cases e
end

def b_is_whole : FS := fRet (fSh (fAndV (fUn (hIsi "int") (fVar 0)) (fUn hNot (fUn (hIsi "bool") (fVar 0)))))
def F_is_whole : List PyData → Option Sl := runF 1 b_is_whole
def b_is_within : FS := fRet (fSh (fAndV (fFz (fCallR 1 F_is_whole (fCons (fVar 0) (fNil)))) (fChain hLe hLe (fVar 1) (fVar 0) (fVar 2))))
def F_is_within : List PyData → Option Sl := runF 3 b_is_within
def b_is_pair : FS := fRet (fSh (fAndV (fUn (hIsi "tuple") (fVar 0)) (fBin hEq (fFz (fCall hLen (fCons (fVar 0) (fNil)))) (fC (.int 2)))))
def F_is_pair : List PyData → Option Sl := runF 1 b_is_pair
def b_is_hand : FS := fSeq (fIf (fOrT (fNotT (fB (fFz (fCallR 1 F_is_pair (fCons (fVar 0) (fNil)))))) (fOrT (fNotT (fB (fFz (fCallR 3 F_is_within (fCons (fBin hIx (fVar 0) (fC (.int 0))) (fCons (fC (.int 0)) (fCons (fC (.int 20)) (fNil)))))))) (fNotT (fB (fFz (fCallR 1 F_is_pair (fCons (fBin hIx (fVar 0) (fC (.int 1))) (fNil)))))))) (fRet (fSh (fC (.bool false)))) (fNext))
    (fRet (fCall hAll (fCons (fFz (fLc [1] (fItems (fBin hIx (fVar 0) (fC (.int 1)))) (gVar 1) (fYes) (fFz (fCallR 3 F_is_within (fCons (fVar 1) (fCons (fBin hSub (fC (.int 0)) (fC (.int 9))) (fCons (fC (.int 9)) (fNil)))))))) (fNil))))
def F_is_hand : List PyData → Option Sl := runF 2 b_is_hand
def b_is_pen : FS := fSeq (fIf (fOrT (fNotT (fB (fFz (fCallR 1 F_is_pair (fCons (fVar 0) (fNil)))))) (fNotT (fB (fFz (fCall hAll (fCons (fFz (fLc [5] (fItems (fVar 0)) (gVar 5) (fYes) (fFz (fCallR 1 F_is_hand (fCons (fVar 5) (fNil)))))) (fNil))))))) (fRet (fSh (fC (.bool false)))) (fNext))
    (fSeq (fAsg (gTu 2 (gCo (gTu 2 (gCo (gVar 1) (gCo (gVar 2) (gNo)))) (gCo (gTu 2 (gCo (gVar 3) (gCo (gVar 4) (gNo)))) (gNo)))) (fTup (fCons (fBin hIx (fBin hIx (fVar 0) (fC (.int 0))) (fC (.int 1))) (fCons (fBin hIx (fBin hIx (fVar 0) (fC (.int 1))) (fC (.int 1))) (fNil)))))
    (fRet (fSh (fBin hNe (fBin hMul (fVar 1) (fVar 4)) (fBin hMul (fVar 2) (fVar 3))))))
def F_is_pen : List PyData → Option Sl := runF 6 b_is_pen
def b_is_stand : FS := fSeq (fIf (fOrT (fNotT (fB (fFz (fCallR 1 F_is_pair (fCons (fVar 1) (fNil)))))) (fNotT (fB (fFz (fCall hAll (fCons (fFz (fLc [2] (fItems (fVar 1)) (gVar 2) (fYes) (fFz (fCallR 1 F_is_pair (fCons (fVar 2) (fNil)))))) (fNil))))))) (fRet (fSh (fC (.bool false)))) (fNext))
    (fSeq (fIf (fNotT (fB (fFz (fCall hAll (fCons (fFz (fLc [2] (fItems (fBin hIx (fVar 1) (fC (.int 0)))) (gVar 2) (fYes) (fFz (fCallR 3 F_is_within (fCons (fVar 2) (fCons (fBin hSub (fC (.int 0)) (fC (.int 1000000000000000))) (fCons (fC (.int 1000000000000000)) (fNil)))))))) (fNil)))))) (fRet (fSh (fC (.bool false)))) (fNext))
    (fRet (fCall hAll (fCons (fFz (fLc [2, 3] (fRg zp2 (fCons (fBin hIx (fVar 1) (fC (.int 1))) (fCons (fVar 0) (fNil)))) (gTu 2 (gCo (gVar 2) (gCo (gVar 3) (gNo)))) (fYes) (fFz (fCallR 3 F_is_within (fCons (fVar 2) (fCons (fC (.int 0)) (fCons (fBin hIx (fVar 3) (fC (.int 0))) (fNil)))))))) (fNil)))))
def F_is_stand : List PyData → Option Sl := runF 4 b_is_stand
def b_is_turn : FS := fSeq (fIf (fOrT (fNotT (fB (fUn (hIsi "tuple") (fVar 0)))) (fOrT (fB (fBin hNe (fFz (fCall hLen (fCons (fVar 0) (fNil)))) (fC (.int 3)))) (fNotT (fB (fFz (fCallR 3 F_is_within (fCons (fBin hIx (fVar 0) (fC (.int 0))) (fCons (fC (.int 0)) (fCons (fC (.int 1)) (fNil)))))))))) (fRet (fSh (fC (.bool false)))) (fNext))
    (fRet (fSh (fAndV (fFz (fCallR 3 F_is_within (fCons (fBin hIx (fVar 0) (fC (.int 1))) (fCons (fBin hSub (fC (.int 0)) (fC (.int 1000000000000))) (fCons (fC (.int 1000000000000)) (fNil)))))) (fUn (hIsi "bool") (fBin hIx (fVar 0) (fC (.int 2)))))))
def F_is_turn : List PyData → Option Sl := runF 1 b_is_turn
def b_is_row : FS := fRet (fSh (fAndV (fUn (hIsi "list") (fVar 0)) (fAndV (fBin hLe (fFz (fCall hLen (fCons (fVar 0) (fNil)))) (fC (.int 60))) (fFz (fCall hAll (fCons (fFz (fLc [1] (fItems (fVar 0)) (gVar 1) (fYes) (fFz (fCallR 1 F_is_turn (fCons (fVar 1) (fNil)))))) (fNil)))))))
def F_is_row : List PyData → Option Sl := runF 2 b_is_row
def b_look_at_pen : FS := fSeq (fIf (fNotT (fB (fFz (fCallR 1 F_is_pen (fCons (fVar 0) (fNil)))))) (fNev) (fNext))
    (fIf (fNotT (fB (fFz (fCallR 2 F_is_stand (fCons (fVar 0) (fCons (fVar 1) (fNil))))))) (fNev) (fNext))
def F_look_at_pen : List PyData → Option Sl := runF 2 b_look_at_pen
def b_look_at_row : FS := fSeq (fDrop (fFz (fCallR 2 F_look_at_pen (fCons (fVar 0) (fCons (fVar 1) (fNil))))))
    (fIf (fNotT (fB (fFz (fCallR 1 F_is_row (fCons (fVar 2) (fNil)))))) (fNev) (fNext))
def F_look_at_row : List PyData → Option Sl := runF 3 b_look_at_row
def b_turned_so : FS := fSeq (fSet 3 (fSh (fBin hAdd (fVar 1) (fVar 2))))
    (fSeq (fIf (fB (fBin hGt (fVar 3) (fVar 0))) (fRet (fSh (fTup (fCons (fBin hSub (fVar 3) (fVar 0)) (fCons (fVar 0) (fNil)))))) (fNext))
    (fRet (fSh (fIfE (fB (fBin hLt (fVar 3) (fC (.int 0)))) (fTup (fCons (fVar 3) (fCons (fC (.int 0)) (fNil)))) (fTup (fCons (fC (.int 0)) (fCons (fVar 3) (fNil))))))))
def F_turned_so : List PyData → Option Sl := runF 4 b_turned_so
def b_put : FS := fRet (fSh (fIfE (fB (fBin hEq (fVar 1) (fC (.int 0)))) (fTup (fCons (fVar 2) (fCons (fBin hIx (fVar 0) (fC (.int 1))) (fNil)))) (fTup (fCons (fBin hIx (fVar 0) (fC (.int 0))) (fCons (fVar 2) (fNil))))))
def F_put : List PyData → Option Sl := runF 3 b_put
def b_turned : FS := fSeq (fAsg (gTu 2 (gCo (gVar 4) (gCo (gVar 5) (gNo)))) (fVar 1))
    (fSeq (fAsg (gTu 2 (gCo (gVar 6) (gCo (gVar 7) (gNo)))) (fFz (fCallR 3 F_turned_so (fCons (fBin hIx (fBin hIx (fVar 0) (fVar 2)) (fC (.int 0))) (fCons (fBin hIx (fVar 5) (fVar 2)) (fCons (fVar 3) (fNil)))))))
    (fRet (fSh (fTup (fCons (fFz (fCallR 3 F_put (fCons (fVar 4) (fCons (fVar 2) (fCons (fBin hAdd (fBin hIx (fVar 4) (fVar 2)) (fVar 6)) (fNil)))))) (fCons (fFz (fCallR 3 F_put (fCons (fVar 5) (fCons (fVar 2) (fCons (fVar 7) (fNil)))))) (fNil)))))))
def F_turned : List PyData → Option Sl := runF 8 b_turned
def b_behind : FS := fSeq (fDrop (fFz (fCallR 3 F_look_at_row (fCons (fVar 0) (fCons (fVar 1) (fCons (fVar 2) (fNil)))))))
    (fSeq (fFor (fItems (fVar 2)) (gTu 3 (gCo (gVar 3) (gCo (gVar 4) (gCo (gVar 5) (gNo))))) (fSet 1 (fCallR 4 F_turned (fCons (fVar 0) (fCons (fVar 1) (fCons (fVar 3) (fCons (fVar 4) (fNil))))))))
    (fRet (fSh (fVar 1))))
def F_behind : List PyData → Option Sl := runF 6 b_behind
def b_joined_1 : FS := fIf (fAndT (fLendT (fB (fBin hNe (fVar 1) (fFz (fLst (fNil)))))) (fB (fBin hLe (fVar 2) (fBin hIx (fIxO 1 (fUn hNeg (fC (.int 1)))) (fC (.int 1)))))) (fPut 1 (fUn hNeg (fC (.int 1))) (fTup (fCons (fBin hIx (fIxO 1 (fUn hNeg (fC (.int 1)))) (fC (.int 0))) (fCons (fFz (fCall hMax (fCons (fBin hIx (fIxO 1 (fUn hNeg (fC (.int 1)))) (fC (.int 1))) (fCons (fVar 3) (fNil))))) (fNil))))) (fAppend 1 (fTup (fCons (fVar 2) (fCons (fVar 3) (fNil)))))
def b_joined : FS := fSeq (fSet 1 (fLst (fNil)))
    (fSeq (fFor (fItems (fFz (fSortP (fVar 0)))) (gTu 2 (gCo (gVar 2) (gCo (gVar 3) (gNo)))) (b_joined_1))
    (fRet (fGive 1)))
def F_joined : List PyData → Option Sl := runF 4 b_joined
def b_strokes_of_1 : FS := fExtend 1 (fFz (fLc [4, 5] (fItems (fFz (fCallR 1 F_joined (fCons (fDGet 0 (fTup (fCons (fVar 2) (fCons (fVar 3) (fNil))))) (fNil))))) (gTu 2 (gCo (gVar 4) (gCo (gVar 5) (gNo)))) (fYes) (fTup (fCons (fVar 2) (fCons (fVar 3) (fCons (fVar 4) (fCons (fVar 5) (fNil))))))))
def b_strokes_of : FS := fSeq (fSet 1 (fLst (fNil)))
    (fSeq (fForSK 0 (gTu 2 (gCo (gVar 2) (gCo (gVar 3) (gNo)))) (b_strokes_of_1))
    (fRet (fCall hTuple (fCons (fVar 1) (fNil)))))
def F_strokes_of : List (List Key × PyData) → Option Sl := runK 6 b_strokes_of
def b_drawing_g : FG2 := gSeq (gLift (fSet 7 (fCallR 4 F_turned (fCons (fVar 0) (fCons (fVar 1) (fCons (fVar 4) (fCons (fVar 5) (fNil))))))))
    (gSeq (gLift (fPar2 8 9 (fConsR (fSh (fBin hIx (fBin hIx (fVar 1) (fC (.int 0))) (fVar 4))) (fConsR (fSh (fBin hIx (fBin hIx (fVar 7) (fC (.int 0))) (fVar 4))) (fNilR)))))
    (gSeq (gIf (fAndT (fB (fVar 6)) (fB (fBin hNe (fVar 8) (fVar 9)))) (gSeq (gLift (fSet 10 (fSh (fTup (fCons (fVar 4) (fCons (fBin hIx (fBin hIx (fVar 1) (fC (.int 0))) (fBin hSub (fC (.int 1)) (fVar 4))) (fNil)))))))
    (gApp 3 (fVar 10) (fTup (fCons (fFz (fCall hMin (fCons (fVar 8) (fCons (fVar 9) (fNil))))) (fCons (fFz (fCall hMax (fCons (fVar 8) (fCons (fVar 9) (fNil))))) (fNil)))))) (gSkip))
    (gLift (fSet 1 (fSh (fVar 7))))))
def b_drawing : FS := fSeq (fDrop (fFz (fCallR 3 F_look_at_row (fCons (fVar 0) (fCons (fVar 1) (fCons (fVar 2) (fNil)))))))
    (fSeq (fSet 3 (fDNewT))
    (fLines 3 (fItems (fVar 2)) (gTu 3 (gCo (gVar 4) (gCo (gVar 5) (gCo (gVar 6) (gNo))))) b_drawing_g F_strokes_of))
def F_drawing : List PyData → Option Sl := runF 11 b_drawing
def b__law_well : FS := fSeq (fIf (fB (fBin hGe (fVar 0) (fBin hPow (fC (.int 10)) (fC (.int 18))))) (fRet (fLst (fCons (fBin hSub (fVar 0) (fBin hPow (fC (.int 10)) (fC (.int 18)))) (fCons (fBin hMod (fVar 0) (fC (.int 2305843009213693951))) (fCons (fVar 1) (fNil)))))) (fNext))
    (fRet (fLst (fCons (fC (.int 0)) (fCons (fBin hMod (fVar 0) (fC (.int 2305843009213693951))) (fCons (fVar 1) (fNil))))))
def F__law_well : List PyData → Option Sl := runF 2 b__law_well
def b__law_take : FS := fSeq (fIf (fB (fBin hGt (fIxO 0 (fC (.int 0))) (fC (.int 0)))) (fSeq (fSet 4 (fSh (fBin hMod (fIxO 0 (fC (.int 0))) (fVar 1))))
    (fSeq (fPut 0 (fC (.int 0)) (fBin hDiv (fIxO 0 (fC (.int 0))) (fVar 1)))
    (fRet (fSh (fVar 4))))) (fNext))
    (fSeq (fPut 0 (fC (.int 2)) (fBin hAdd (fIxO 0 (fC (.int 2))) (fC (.int 1))))
    (fSeq (fSet 2 (fSh (fC (.int 2305843009213693951))))
    (fSeq (fSet 3 (fSh (fBin hMod (fBin hAdd (fIxO 0 (fC (.int 1))) (fBin hMul (fC (.int 1000003)) (fIxO 0 (fC (.int 2))))) (fVar 2))))
    (fSeq (fSet 3 (fSh (fBin hMod (fBin hAdd (fBin hAdd (fBin hMul (fVar 3) (fVar 3)) (fBin hMul (fC (.int 7919)) (fBin hPow (fIxO 0 (fC (.int 2))) (fC (.int 2))))) (fC (.int 5))) (fVar 2))))
    (fRet (fSh (fBin hMod (fBin hDiv (fBin hMod (fBin hPow (fVar 3) (fC (.int 3))) (fVar 2)) (fC (.int 13))) (fVar 1))))))))
def F__law_take : FBag := runB 5 b__law_take
def b__law_same (F__law_same : List PyData → Option Sl) : FS := fSeq (fIf (fOrT (fAndT (fB (fUn (hIsi "list") (fVar 0))) (fB (fUn (hIsi "list") (fVar 1)))) (fAndT (fB (fUn (hIsi "tuple") (fVar 0))) (fB (fUn (hIsi "tuple") (fVar 1))))) (fRet (fSh (fAndV (fBin hEq (fFz (fCall hLen (fCons (fVar 0) (fNil)))) (fFz (fCall hLen (fCons (fVar 1) (fNil))))) (fFz (fCall hAll (fCons (fFz (fLc [2, 3] (fRg zp2 (fCons (fVar 0) (fCons (fVar 1) (fNil)))) (gTu 2 (gCo (gVar 2) (gCo (gVar 3) (gNo)))) (fYes) (fFz (fCallR 2 F__law_same (fCons (fVar 2) (fCons (fVar 3) (fNil))))))) (fNil))))))) (fNext))
    (fSeq (fIf (fOrT (fB (fUn (hIsiT ["bool", "list", "tuple"]) (fVar 0))) (fB (fUn (hIsiT ["bool", "list", "tuple"]) (fVar 1)))) (fRet (fSh (fAndV (fUn (hIsi "bool") (fVar 0)) (fAndV (fUn (hIsi "bool") (fVar 1)) (fBin hEq (fVar 0) (fVar 1)))))) (fNext))
    (fSeq (fIf (fOrT (fB (fUn (hIsi "int") (fVar 0))) (fB (fUn (hIsi "int") (fVar 1)))) (fRet (fSh (fAndV (fUn (hIsi "int") (fVar 0)) (fAndV (fUn (hIsi "int") (fVar 1)) (fBin hEq (fVar 0) (fVar 1)))))) (fNext))
    (fSeq (fIf (fOrT (fB (fUn (hIsi "str") (fVar 0))) (fB (fUn (hIsi "str") (fVar 1)))) (fRet (fSh (fAndV (fUn (hIsi "str") (fVar 0)) (fAndV (fUn (hIsi "str") (fVar 1)) (fBin hEq (fVar 0) (fVar 1)))))) (fNext))
    (fRet (fSh (fAndV (fUn hIsN (fVar 0)) (fUn hIsN (fVar 1))))))))
def F__law_same : Nat → List PyData → Option Sl
  | 0 => fun _ => none
  | n + 1 => runF 4 (b__law_same (F__law_same n))
def b__law_lead : FS := fRet (fSh (fTup (fCons (fBin hSub (fFz (fCallB 0 1 F__law_take (fCons (fC (.int 19)) (fNil)))) (fC (.int 9))) (fCons (fBin hSub (fFz (fCallB 0 1 F__law_take (fCons (fC (.int 19)) (fNil)))) (fC (.int 9))) (fNil)))))
def F__law_lead : FBag := runB 1 b__law_lead
def b__law_pen : FS := fSeq (fSet 2 (fLst (fCons (fFz (fCallB 0 0 F__law_lead (fNil))) (fCons (fFz (fCallB 0 0 F__law_lead (fNil))) (fNil)))))
    (fSeq (fIf (fB (fBin hEq (fBin hMul (fBin hIx (fBin hIx (fVar 2) (fC (.int 0))) (fC (.int 0))) (fBin hIx (fBin hIx (fVar 2) (fC (.int 1))) (fC (.int 1)))) (fBin hMul (fBin hIx (fBin hIx (fVar 2) (fC (.int 0))) (fC (.int 1))) (fBin hIx (fBin hIx (fVar 2) (fC (.int 1))) (fC (.int 0)))))) (fSet 2 (fLst (fCons (fTup (fCons (fC (.int 1)) (fCons (fC (.int 0)) (fNil)))) (fCons (fTup (fCons (fC (.int 0)) (fCons (fC (.int 1)) (fNil)))) (fNil))))) (fNext))
    (fRet (fCall hTuple (fCons (fFz (fLc [3] (fItems (fVar 2)) (gVar 3) (fYes) (fTup (fCons (fFz (fCallB 0 1 F__law_take (fCons (fBin hAdd (fVar 1) (fC (.int 1))) (fNil)))) (fCons (fVar 3) (fNil)))))) (fNil)))))
def F__law_pen : FBag := runB 4 b__law_pen
def b__law_stand : FS := fSeq (fSet 3 (fCall hTuple (fCons (fFz (fLc [4] (fItems (fVar 1)) (gVar 4) (fYes) (fBin hSub (fFz (fCallB 0 1 F__law_take (fCons (fBin hAdd (fBin hMul (fC (.int 2)) (fVar 2)) (fC (.int 1))) (fNil)))) (fVar 2)))) (fNil))))
    (fRet (fSh (fTup (fCons (fVar 3) (fCons (fFz (fCall hTuple (fCons (fFz (fLc [4] (fItems (fVar 1)) (gVar 4) (fYes) (fFz (fCallB 0 1 F__law_take (fCons (fBin hAdd (fBin hIx (fVar 4) (fC (.int 0))) (fC (.int 1))) (fNil)))))) (fNil)))) (fNil))))))
def F__law_stand : FBag := runB 5 b__law_stand
def b__law_row : FS := fSeq (fSet 3 (fLst (fNil)))
    (fSeq (fFor (fRg rg1 (fCons (fFz (fCallB 0 1 F__law_take (fCons (fBin hAdd (fVar 1) (fC (.int 1))) (fNil)))) (fNil))) (gVar 4) (fSeq (fSet 5 (fSh (fBin hIx (fFz (fLst (fCons (fVar 2) (fCons (fC (.int 9)) (fCons (fC (.int 3)) (fNil)))))) (fFz (fCallB 0 1 F__law_take (fCons (fC (.int 3)) (fNil)))))))
    (fAppend 3 (fTup (fCons (fFz (fCallB 0 1 F__law_take (fCons (fC (.int 2)) (fNil)))) (fCons (fBin hSub (fFz (fCallB 0 1 F__law_take (fCons (fBin hAdd (fBin hMul (fC (.int 2)) (fVar 5)) (fC (.int 1))) (fNil)))) (fVar 5)) (fCons (fBin hGt (fFz (fCallB 0 1 F__law_take (fCons (fC (.int 3)) (fNil)))) (fC (.int 0))) (fNil))))))))
    (fRet (fGive 3)))
def F__law_row : FBag := runB 6 b__law_row
def b__law_turned : FS := fSeq (fPar3 4 5 6 (fConsR (fSh (fBin hIx (fBin hIx (fVar 0) (fVar 2)) (fC (.int 0)))) (fConsR (fCall hList (fCons (fBin hIx (fVar 1) (fC (.int 0))) (fNil))) (fConsR (fCall hList (fCons (fBin hIx (fVar 1) (fC (.int 1))) (fNil))) (fNilR)))))
    (fSeq (fSet 7 (fSh (fBin hAdd (fBin hAdd (fIxO 5 (fVar 2)) (fIxO 6 (fVar 2))) (fVar 3))))
    (fSeq (fPut 5 (fVar 2) (fBin hIx (fFz (fCall hSorted (fCons (fFz (fLst (fCons (fBin hSub (fVar 7) (fVar 4)) (fCons (fIxO 5 (fVar 2)) (fCons (fVar 7) (fNil)))))) (fNil)))) (fC (.int 1))))
    (fSeq (fPut 6 (fVar 2) (fBin hSub (fVar 7) (fIxO 5 (fVar 2))))
    (fRet (fSh (fTup (fCons (fFz (fCall hTuple (fCons (fVar 5) (fNil)))) (fCons (fFz (fCall hTuple (fCons (fVar 6) (fNil)))) (fNil)))))))))
def F__law_turned : List PyData → Option Sl := runF 8 b__law_turned
def b__law_edges_u : FGU := uSeq (uLift (fSet 7 (fCallR 4 F__law_turned (fCons (fVar 0) (fCons (fVar 1) (fCons (fVar 4) (fCons (fVar 5) (fNil))))))))
    (uSeq (uLift (fPar2 8 9 (fConsR (fSh (fBin hIx (fBin hIx (fVar 1) (fC (.int 0))) (fVar 4))) (fConsR (fSh (fBin hIx (fBin hIx (fVar 7) (fC (.int 0))) (fVar 4))) (fNilR)))))
    (uSeq (uIf (fB (fVar 6)) (uUp 3 (fFz (fLc [10] (fRg rg2 (fCons (fFz (fCall hMin (fCons (fVar 8) (fCons (fVar 9) (fNil))))) (fCons (fFz (fCall hMax (fCons (fVar 8) (fCons (fVar 9) (fNil))))) (fNil)))) (gVar 10) (fYes) (fTup (fCons (fTup (fCons (fVar 4) (fCons (fBin hIx (fBin hIx (fVar 1) (fC (.int 0))) (fBin hSub (fC (.int 1)) (fVar 4))) (fCons (fVar 10) (fNil))))) (fCons (fC (.bool true)) (fNil))))))) (uSkip))
    (uLift (fSet 1 (fSh (fVar 7))))))
def b__law_edges : FS := fSeq (fSet 3 (fDNewT))
    (fKeys 3 (fItems (fVar 2)) (gTu 3 (gCo (gVar 4) (gCo (gVar 5) (gCo (gVar 6) (gNo))))) b__law_edges_u)
def F__law_edges : List PyData → Option Sl := runF 11 b__law_edges
def b__law_edges_of : FS := fSeq (fSet 1 (fLst (fNil)))
    (fSeq (fFor (fItems (fVar 0)) (gTu 4 (gCo (gVar 2) (gCo (gVar 3) (gCo (gVar 4) (gCo (gVar 5) (gNo)))))) (fSet 1 (fCat (fVar 1) (fFz (fLc [6] (fRg rg2 (fCons (fVar 4) (fCons (fVar 5) (fNil)))) (gVar 6) (fYes) (fTup (fCons (fVar 2) (fCons (fVar 3) (fCons (fVar 6) (fNil))))))))))
    (fRet (fSh (fVar 1))))
def F__law_edges_of : List PyData → Option Sl := runF 7 b__law_edges_of
def b__law_far_1 : FS := fSeq (fSet 7 (fCallR 4 F__law_turned (fCons (fVar 0) (fCons (fVar 1) (fCons (fVar 4) (fCons (fVar 5) (fNil)))))))
    (fSeq (fPar2 8 9 (fConsR (fSh (fBin hIx (fBin hIx (fVar 1) (fC (.int 0))) (fVar 4))) (fConsR (fSh (fBin hIx (fBin hIx (fVar 7) (fC (.int 0))) (fVar 4))) (fNilR))))
    (fSeq (fIf (fAndT (fB (fVar 6)) (fB (fBin hNe (fVar 8) (fVar 9)))) (fSeq (fSet 10 (fSh (fTup (fCons (fVar 4) (fCons (fBin hIx (fBin hIx (fVar 1) (fC (.int 0))) (fBin hSub (fC (.int 1)) (fVar 4))) (fCons (fFz (fCall hMin (fCons (fVar 8) (fCons (fVar 9) (fNil))))) (fCons (fFz (fCall hMax (fCons (fVar 8) (fCons (fVar 9) (fNil))))) (fNil))))))))
    (fSeq (fSet 11 (fLc [14] (fItems (fVar 3)) (gVar 14) (fAndT (fB (fBin hEq (fFz (fCut (fVar 14) (fNo) (fPt (fC (.int 2))))) (fFz (fCut (fVar 10) (fNo) (fPt (fC (.int 2))))))) (fAndT (fB (fBin hLe (fBin hIx (fVar 14) (fC (.int 2))) (fBin hIx (fVar 10) (fC (.int 3))))) (fB (fBin hLe (fBin hIx (fVar 10) (fC (.int 2))) (fBin hIx (fVar 14) (fC (.int 3))))))) (fVar 14)))
    (fSeq (fSet 3 (fLc [14] (fItems (fVar 3)) (gVar 14) (fB (fBin hNotIn (fVar 14) (fVar 11))) (fVar 14)))
    (fSeq (fPar2 12 13 (fConsR (fLc [14] (fItems (fBin hAdd (fVar 11) (fFz (fLst (fCons (fVar 10) (fNil)))))) (gVar 14) (fYes) (fBin hIx (fVar 14) (fC (.int 2)))) (fConsR (fLc [14] (fItems (fBin hAdd (fVar 11) (fFz (fLst (fCons (fVar 10) (fNil)))))) (gVar 14) (fYes) (fBin hIx (fVar 14) (fC (.int 3)))) (fNilR))))
    (fAppend 3 (fBin hAdd (fFz (fCut (fVar 10) (fNo) (fPt (fC (.int 2))))) (fTup (fCons (fFz (fCall hMin (fCons (fVar 12) (fNil)))) (fCons (fFz (fCall hMax (fCons (fVar 13) (fNil)))) (fNil)))))))))) (fNext))
    (fSet 1 (fSh (fVar 7)))))
def b__law_far : FS := fSeq (fSet 3 (fLst (fNil)))
    (fSeq (fFor (fItems (fVar 2)) (gTu 3 (gCo (gVar 4) (gCo (gVar 5) (gCo (gVar 6) (gNo))))) (b__law_far_1))
    (fRet (fCall hTuple (fCons (fFz (fSortL (fVar 3))) (fNil)))))
def F__law_far : List PyData → Option Sl := runF 15 b__law_far
def b_main : FS := fSeq (fSet 2 (fCallB 1 1 F__law_pen (fCons (fBin hIx (fFz (fLst (fCons (fC (.int 20)) (fCons (fC (.int 3)) (fNil))))) (fFz (fCallB 1 1 F__law_take (fCons (fC (.int 2)) (fNil))))) (fNil))))
    (fSeq (fSet 3 (fCallB 1 2 F__law_stand (fCons (fVar 2) (fCons (fBin hIx (fFz (fLst (fCons (fBin hPow (fC (.int 10)) (fC (.int 15))) (fCons (fC (.int 3)) (fNil))))) (fFz (fCallB 1 1 F__law_take (fCons (fC (.int 2)) (fNil))))) (fNil)))))
    (fSeq (fSet 4 (fCallB 1 2 F__law_row (fCons (fC (.int 30)) (fCons (fC (.int 40)) (fNil)))))
    (fSeq (fSet 5 (fCallR 3 F_drawing (fCons (fVar 2) (fCons (fVar 3) (fCons (fVar 4) (fNil))))))
    (fSeq (fIf (fOrT (fB (fBin hNe (fFz (fCallR 1 F__law_edges_of (fCons (fVar 5) (fNil)))) (fFz (fCallR 3 F__law_edges (fCons (fVar 2) (fCons (fVar 3) (fCons (fVar 4) (fNil)))))))) (fNotT (fB (fUn (hIsi "tuple") (fVar 5))))) (fRet (fSh (fC (.bool false)))) (fNext))
    (fSeq (fIf (fOrT (fB (fBin hNe (fFz (fCall hList (fCons (fVar 5) (fNil)))) (fFz (fSortL (fVar 5))))) (fNotT (fB (fFz (fCallR 2 (F__law_same 8) (fCons (fVar 5) (fCons (fFz (fCallR 3 F__law_far (fCons (fVar 2) (fCons (fVar 3) (fCons (fVar 4) (fNil)))))) (fNil)))))))) (fRet (fSh (fC (.bool false)))) (fNext))
    (fSeq (fSet 6 (fCallB 1 2 F__law_row (fCons (fC (.int 60)) (fCons (fBin hPow (fC (.int 10)) (fC (.int 12))) (fNil)))))
    (fSeq (fIf (fNotT (fB (fFz (fCallR 2 (F__law_same 8) (fCons (fFz (fCallR 3 F_drawing (fCons (fVar 2) (fCons (fVar 3) (fCons (fVar 6) (fNil)))))) (fCons (fFz (fCallR 3 F__law_far (fCons (fVar 2) (fCons (fVar 3) (fCons (fVar 6) (fNil)))))) (fNil))))))) (fRet (fSh (fC (.bool false)))) (fNext))
    (fSeq (fIf (fB (fBin hNe (fFz (fCallR 3 F_drawing (fCons (fVar 2) (fCons (fVar 3) (fCons (fFz (fLc [9] (fItems (fVar 4)) (gVar 9) (fYes) (fBin hAdd (fFz (fCut (fVar 9) (fNo) (fPt (fC (.int 2))))) (fTup (fCons (fC (.bool false)) (fNil)))))) (fNil)))))) (fTup (fNil)))) (fRet (fSh (fC (.bool false)))) (fNext))
    (fSeq (fSet 7 (fCut (fVar 4) (fNo) (fPt (fC (.int 10)))))
    (fSeq (fSet 8 (fLc [9] (fItems (fFz (fCut (fVar 4) (fPt (fC (.int 10))) (fNo)))) (gVar 9) (fYes) (fBin hAdd (fFz (fCut (fVar 9) (fNo) (fPt (fC (.int 2))))) (fTup (fCons (fC (.bool false)) (fNil))))))
    (fSeq (fIf (fB (fBin hNe (fFz (fCallR 3 F_drawing (fCons (fVar 2) (fCons (fVar 3) (fCons (fBin hAdd (fVar 7) (fVar 8)) (fNil)))))) (fFz (fCallR 3 F__law_far (fCons (fVar 2) (fCons (fVar 3) (fCons (fVar 7) (fNil)))))))) (fRet (fSh (fC (.bool false)))) (fNext))
    (fIf (fB (fBin hNe (fFz (fCallR 3 F_behind (fCons (fVar 2) (fCons (fVar 3) (fCons (fBin hAdd (fVar 7) (fVar 8)) (fNil)))))) (fFz (fCallR 3 F_behind (fCons (fVar 2) (fCons (fVar 3) (fCons (fVar 4) (fNil)))))))) (fRet (fSh (fC (.bool false)))) (fNext)))))))))))))

theorem cut_map {α : Type} (toD : α → PyData) (xs : List α) (k : Int) (h : 0 ≤ k) : cutD (xs.map toD) none (some k) = (xs.take k.toNat).map toD ∧ cutD (xs.map toD) (some k) none = (xs.drop k.toNat).map toD := by
  obtain ⟨n, rfl⟩ : ∃ n : Nat, k = n := ⟨k.toNat, by omega⟩
  unfold cutD
  rw [HT.sIx_none, HT.sIx_nat, HT.sIx_none, HT.sIx_nat, List.length_map, List.drop_zero, Int.toNat_natCast, Nat.sub_zero, List.map_take, List.map_drop]
  refine ⟨?_, ?_⟩
  · by_cases e : n ≤ xs.length
    · rw [Nat.min_eq_left e]
    · rw [Nat.min_eq_right (by omega), List.take_of_length_le (by rw [List.length_map]; omega), List.take_of_length_le (by rw [List.length_map]; omega)]
  · by_cases e : n ≤ xs.length
    · rw [Nat.min_eq_left e, List.take_of_length_le (by rw [List.length_drop, List.length_map]; omega)]
    · rw [Nat.min_eq_right (by omega), List.drop_eq_nil_of_le (by rw [List.length_map]; omega), List.drop_eq_nil_of_le (by rw [List.length_map]; omega), List.take_nil]
theorem pick3 {x y z r : Int} (h0 : 0 ≤ r) (h1 : r < 3) : ∃ w, atI [PyData.int x, .int y, .int z] r = some (.int w) ∧ (w = x ∨ w = y ∨ w = z) := by
  have h2 : r = 0 ∨ r = 1 ∨ r = 2 := by omega
  rcases h2 with rfl | rfl | rfl
  · exact ⟨x, by simp, .inl rfl⟩
  · exact ⟨y, by simp, .inr (.inl rfl)⟩
  · exact ⟨z, by simp, .inr (.inr rfl)⟩
theorem rangeD_map (n : Nat) : rangeD 0 n = (List.range n).map fun (k : Nat) => PyData.int (k : Int) := by
  unfold rangeD
  simp
theorem rg1_eq {j : Int} (h : 0 ≤ j ∧ j < 1000000000) : rg1 [.int j] = some ((List.range j.toNat).map fun (k : Nat) => PyData.int (k : Int)) := by
  rw [← rangeD_map]
  exact if_pos ⟨by omega, by omega⟩
theorem fRg1_of {k : FA} {ρ ρ' : En} {j : Int} (h : k ρ = some ([.int j], ρ')) (hj : 0 ≤ j ∧ j < 1000000000) : fRg rg1 k ρ = some ((List.range j.toNat).map fun (k : Nat) => PyData.int (k : Int), ρ') := by
  have e := rg1_eq hj
  unfold fRg
  rw [h, Option.bind_some]
  show (rg1 [.int j]).map _ = _
  rw [e]
  rfl
theorem fRg1_nat {k : FA} {ρ ρ' : En} {j : Int} {n : Nat} (h : k ρ = some ([.int j], ρ')) (hj : j = n) (hn : n < 1000000000) : fRg rg1 k ρ = some ((List.range n).map fun (k : Nat) => PyData.int (k : Int), ρ') := by
  have e := fRg1_of h ⟨by omega, by omega⟩
  have e2 : j.toNat = n := by omega
  rw [e2] at e
  exact e

theorem boolsO_all {α : Type} (xs : List α) : boolsO (xs.map fun _ => PyData.bool true) = some (xs.map fun _ => true) := by
  induction xs with
  | nil => rfl
  | cons x xs ih => simp [ih]
theorem all_true {α : Type} (xs : List α) : (xs.map fun _ => true).all id = true := by
  induction xs with
  | nil => rfl
  | cons x xs ih => simp

theorem forL_run {α : Type} {g : FG} {F : FS} {toD : α → PyData} {ρ : En} {xs : List α} {Inv : List α → En → Prop} (h0 : Inv [] ρ) (hs : ∀ pre x post ρ1, xs = pre ++ x :: post → Inv pre ρ1 → ∃ ρ2, g (toD x) ρ1 = some ρ2 ∧ ∃ ρ3, F ρ2 = some (.nx ρ3) ∧ Inv (pre ++ [x]) ρ3) :
    ∃ ρ', forL g F (xs.map toD) ρ = some (.nx ρ') ∧ Inv xs ρ' := by
  have go : ∀ (post pre : List α) (ρ1 : En), xs = pre ++ post → Inv pre ρ1 → ∃ ρ', forL g F (post.map toD) ρ1 = some (.nx ρ') ∧ Inv xs ρ' := by
    intro post
    induction post with
    | nil =>
      intro pre ρ1 e h
      rw [List.append_nil] at e
      subst e
      exact ⟨ρ1, rfl, h⟩
    | cons x post ih =>
      intro pre ρ1 e h
      obtain ⟨ρ2, h1, ρ3, h2, h3⟩ := hs pre x post ρ1 e h
      obtain ⟨ρ', h4, h5⟩ := ih (pre ++ [x]) ρ3 (by rw [e, List.append_assoc]; rfl) h3
      refine ⟨ρ', ?_, h5⟩
      rw [List.map_cons, forL_cons, h1, Option.bind_some, h2, Option.bind_some]
      exact h4
  exact go xs [] ρ rfl h0

/-! what may be: whole numbers, pairs -/
theorem sp_is_whole {d : PyData} (h : noDict d = true) : F_is_whole [d] = some (.sh (.bool (kInt d && !kBool d))) := by
  cases d with
  | dict _ => cases h
  | _ => simp [F_is_whole, runF, b_is_whole, startE, isi_int h, isi_bool h, kInt, kBool]
def withinD (d : PyData) (lo hi : Int) : Bool := match d with
  | .int i => decide (lo ≤ i) && decide (i ≤ hi)
  | _ => false
theorem sp_is_within {d : PyData} (h : noDict d = true) (lo hi : Int) : F_is_within [d, .int lo, .int hi] = some (.sh (.bool (withinD d lo hi))) := by
  cases d with
  | dict _ => cases h
  | int i =>
    simp [F_is_within, runF, b_is_within, startE, sp_is_whole h, kInt, kBool, withinD]
    cases hd : decide (lo ≤ i) <;> simp
  | _ => simp [F_is_within, runF, b_is_within, startE, sp_is_whole h, kInt, kBool, withinD]
theorem sp_is_within_i (i lo hi : Int) : F_is_within [.int i, .int lo, .int hi] = some (.sh (.bool (decide (lo ≤ i) && decide (i ≤ hi)))) := sp_is_within rfl lo hi
theorem sp_is_within_ok {i lo hi : Int} (h1 : lo ≤ i) (h2 : i ≤ hi) : F_is_within [.int i, .int lo, .int hi] = some (.sh (.bool true)) := by
  rw [sp_is_within_i, decide_eq_true h1, decide_eq_true h2]
  rfl
def pairD (d : PyData) : Bool := match d with
  | .tuple xs => xs.length == 2
  | _ => false

theorem sp_is_pair {d : PyData} (h : noDict d = true) : F_is_pair [d] = some (.sh (.bool (pairD d))) := by
  cases d with
  | dict _ => cases h
  | tuple xs =>
    simp [F_is_pair, runF, b_is_pair, startE, isi_tup h, kTup, pairD]
    by_cases e : xs.length = 2
    · rw [e]
      rfl
    · rw [beq_eq_false_iff_ne.mpr e, beq_eq_false_iff_ne.mpr (by omega)]
  | _ => simp [F_is_pair, runF, b_is_pair, startE, isi_tup h, kTup, pairD]
theorem sp_is_pair_2 (x y : PyData) : F_is_pair [.tuple [x, y]] = some (.sh (.bool true)) := sp_is_pair rfl

/-! pens and stands that are some -/
structure Pen where
  s0 : Int
  a : Int
  b : Int
  s1 : Int
  c : Int
  d : Int
def Pen.D (p : Pen) : PyData := .tuple [.tuple [.int p.s0, .tuple [.int p.a, .int p.b]], .tuple [.int p.s1, .tuple [.int p.c, .int p.d]]]
structure Pen.Ok (p : Pen) : Prop where
  s0 : 0 ≤ p.s0 ∧ p.s0 ≤ 20
  s1 : 0 ≤ p.s1 ∧ p.s1 ≤ 20
  a : -9 ≤ p.a ∧ p.a ≤ 9
  b : -9 ≤ p.b ∧ p.b ≤ 9
  c : -9 ≤ p.c ∧ p.c ≤ 9
  d : -9 ≤ p.d ∧ p.d ≤ 9
  ne : p.a * p.d ≠ p.b * p.c
structure Stn where
  g0 : Int
  g1 : Int
  o0 : Int
  o1 : Int
def Stn.D (s : Stn) : PyData := .tuple [.tuple [.int s.g0, .int s.g1], .tuple [.int s.o0, .int s.o1]]
structure Stn.Ok (p : Pen) (s : Stn) : Prop where
  g0 : -1000000000000000 ≤ s.g0 ∧ s.g0 ≤ 1000000000000000
  g1 : -1000000000000000 ≤ s.g1 ∧ s.g1 ≤ 1000000000000000
  o0 : 0 ≤ s.o0 ∧ s.o0 ≤ p.s0
  o1 : 0 ≤ s.o1 ∧ s.o1 ≤ p.s1
theorem sp_is_hand {s a b : Int} (h1 : 0 ≤ s ∧ s ≤ 20) (h2 : -9 ≤ a ∧ a ≤ 9) (h3 : -9 ≤ b ∧ b ≤ 9) : F_is_hand [.tuple [.int s, .tuple [.int a, .int b]]] = some (.sh (.bool true)) := by
  simp [F_is_hand, runF, b_is_hand, startE, sp_is_pair_2, sp_is_within_i, h1.1, h1.2, h2.1, h2.2, h3.1, h3.2]
theorem mul9 {a : Int} (h : -9 ≤ a ∧ a ≤ 9) : -18446744073709551616 < a ∧ a < 18446744073709551616 := by omega
theorem sp_is_pen {p : Pen} (h : p.Ok) : F_is_pen [p.D] = some (.sh (.bool true)) := by
  have e1 := sp_is_hand h.s0 h.a h.b
  have e2 := sp_is_hand h.s1 h.c h.d
  have e3 := hMul_l (j := p.d) (mul9 h.a)
  have e4 := hMul_l (j := p.c) (mul9 h.b)
  simp [F_is_pen, runF, b_is_pen, startE, Pen.D, sp_is_pair_2, e1, e2, e3, e4, h.ne]
theorem sp_is_stand {p : Pen} {s : Stn} (h : s.Ok p) : F_is_stand [p.D, s.D] = some (.sh (.bool true)) := by
  simp [F_is_stand, runF, b_is_stand, startE, Pen.D, Stn.D, sp_is_pair_2, sp_is_within_i, h.g0.1, h.g0.2, h.g1.1, h.g1.2, h.o0.1, h.o0.2, h.o1.1, h.o1.2]
theorem sp_look_at_pen {p : Pen} {s : Stn} (hp : p.Ok) (h : s.Ok p) : F_look_at_pen [p.D, s.D] = some (.sh .none) := by
  simp [F_look_at_pen, runF, b_look_at_pen, startE, sp_is_pen hp, sp_is_stand h]

/-! turns and rows -/
structure Trn where
  h : Int
  t : Int
  d : Bool
def Trn.D (t : Trn) : PyData := .tuple [.int t.h, .int t.t, .bool t.d]
def rowD (r : List Trn) : PyData := .list (r.map Trn.D)
def Trn.Ok (t : Trn) : Prop := (t.h = 0 ∨ t.h = 1) ∧ -1000000000000 ≤ t.t ∧ t.t ≤ 1000000000000
def RowOk (r : List Trn) : Prop := r.length ≤ 60 ∧ ∀ t ∈ r, t.Ok
theorem sp_is_turn {t : Trn} (h : t.Ok) : F_is_turn [t.D] = some (.sh (.bool true)) := by
  obtain ⟨h1, h2, h3⟩ := h
  have h4 : 0 ≤ t.h := by omega
  have h5 : t.h ≤ 1 := by omega
  simp [F_is_turn, runF, b_is_turn, startE, Trn.D, sp_is_within_i, h2, h3, h4, h5]
theorem sp_is_row {r : List Trn} (h : RowOk r) : F_is_row [rowD r] = some (.sh (.bool true)) := by
  have e1 : lcL [1] (gVar 1) fYes (fFz (fCallR 1 F_is_turn (fCons (fVar 1) fNil))) (r.map Trn.D) [.sh (rowD r), .un] = some (r.map fun _ => PyData.bool true, [.sh (rowD r), .un]) :=
    lcL_map Trn.D (fun _ => PyData.bool true) r fun t ht => ⟨[.sh (rowD r), .sh t.D], [.sh (rowD r), .sh t.D], rfl, by simp [sp_is_turn (h.2 t ht)], rfl⟩
  have e2 : (r.length : Int) ≤ 60 := by have := h.1; omega
  have e3 : r.length ≤ 16000000 := by have := h.1; omega
  unfold rowD at e1 ⊢
  simp [F_is_row, runF, b_is_row, startE, e1, e2, e3, boolsO_all]
theorem sp_look_at_row {p : Pen} {s : Stn} {r : List Trn} (hp : p.Ok) (h : s.Ok p) (hr : RowOk r) : F_look_at_row [p.D, s.D, rowD r] = some (.sh .none) := by
  simp [F_look_at_row, runF, b_look_at_row, startE, sp_look_at_pen hp h, sp_is_row hr]

/-! turns -/
def tSo (s o t : Int) : Int × Int := if o + t > s then (o + t - s, s) else if o + t < 0 then (o + t, 0) else (0, o + t)

theorem sp_turned_so (s o t : Int) : F_turned_so [.int s, .int o, .int t] = some (.sh (.tuple [.int (tSo s o t).1, .int (tSo s o t).2])) := by
  unfold tSo
  by_cases h1 : s < o + t
  · simp [F_turned_so, runF, b_turned_so, startE, h1]
  · by_cases h2 : o + t < 0
    · simp [F_turned_so, runF, b_turned_so, startE, h1, h2]
    · simp [F_turned_so, runF, b_turned_so, startE, h1, h2]

/-- a stand behind the turning of a hand -/
def Stn.turn (p : Pen) (s : Stn) (h t : Int) : Stn := if h = 0 then ⟨s.g0 + (tSo p.s0 s.o0 t).1, s.g1, (tSo p.s0 s.o0 t).2, s.o1⟩ else ⟨s.g0, s.g1 + (tSo p.s1 s.o1 t).1, s.o0, (tSo p.s1 s.o1 t).2⟩

theorem sp_put_0 (x y z : PyData) : F_put [.tuple [x, y], .int 0, z] = some (.sh (.tuple [z, y])) := by
  simp [F_put, runF, b_put, startE]
theorem sp_put_1 (x y z : PyData) : F_put [.tuple [x, y], .int 1, z] = some (.sh (.tuple [x, z])) := by
  simp [F_put, runF, b_put, startE]
theorem sp_turned {p : Pen} {s : Stn} {h t : Int} (hh : h = 0 ∨ h = 1) : F_turned [p.D, s.D, .int h, .int t] = some (.sh (s.turn p h t).D) := by
  rcases hh with rfl | rfl
  · simp [F_turned, runF, b_turned, startE, Pen.D, Stn.D, Stn.turn, sp_turned_so, sp_put_0]
  · simp [F_turned, runF, b_turned, startE, Pen.D, Stn.D, Stn.turn, sp_turned_so, sp_put_1]

def Stn.step (p : Pen) (s : Stn) (t : Trn) : Stn := s.turn p t.h t.t
def Stn.run (p : Pen) (s : Stn) (r : List Trn) : Stn := r.foldl (Stn.step p) s
theorem Stn.run_snoc (p : Pen) (s : Stn) (r : List Trn) (t : Trn) : s.run p (r ++ [t]) = (s.run p r).turn p t.h t.t := by
  unfold Stn.run
  rw [List.foldl_append]
  rfl
theorem sp_behind {p : Pen} {s : Stn} {r : List Trn} (hp : p.Ok) (h : s.Ok p) (hr : RowOk r) : F_behind [p.D, s.D, rowD r] = some (.sh (s.run p r).D) := by
  have key := forL_run (g := gTu 3 (gCo (gVar 3) (gCo (gVar 4) (gCo (gVar 5) gNo)))) (F := fSet 1 (fCallR 4 F_turned (fCons (fVar 0) (fCons (fVar 1) (fCons (fVar 3) (fCons (fVar 4) fNil)))))) (toD := Trn.D) (xs := r)
    (ρ := [.sh p.D, .sh s.D, .sh (rowD r), .un, .un, .un]) (Inv := fun pre ρ => ∃ x y z, ρ = [.sh p.D, .sh (s.run p pre).D, .sh (rowD r), x, y, z]) ⟨_, _, _, rfl⟩ (fun pre t post ρ1 e ⟨x, y, z, hρ⟩ => by
      subst hρ
      have ht : t.Ok := hr.2 t (by rw [e]; simp)
      refine ⟨_, rfl, [.sh p.D, .sh ((s.run p pre).turn p t.h t.t).D, .sh (rowD r), .sh (.int t.h), .sh (.int t.t), .sh (.bool t.d)], by simp [sp_turned ht.1], .sh (.int t.h), .sh (.int t.t), .sh (.bool t.d), by rw [Stn.run_snoc]⟩)
  obtain ⟨ρ', e1, x, y, z, e2⟩ := key
  subst e2
  unfold rowD at e1 ⊢
  have e3 := sp_look_at_row hp h hr
  unfold rowD at e3
  simp [F_behind, runF, b_behind, startE, e3, e1]

theorem tSo_in {s o t : Int} (h0 : 0 ≤ o) (h1 : o ≤ s) : 0 ≤ (tSo s o t).2 ∧ (tSo s o t).2 ≤ s := by
  unfold tSo
  split
  · show 0 ≤ s ∧ s ≤ s
    omega
  · split
    · show 0 ≤ (0 : Int) ∧ (0 : Int) ≤ s
      omega
    · show 0 ≤ o + t ∧ o + t ≤ s
      omega
theorem tSo_sum (s o t : Int) : (tSo s o t).1 + (tSo s o t).2 = o + t := by
  unfold tSo
  split
  · show o + t - s + s = o + t
    omega
  · split
    · show o + t + 0 = o + t
      omega
    · show 0 + (o + t) = o + t
      omega
theorem pick2 {x y r : Int} (h0 : 0 ≤ r) (h1 : r < 2) : ∃ z, atI [PyData.int x, .int y] r = some (.int z) ∧ (z = x ∨ z = y) := by
  have h2 : r = 0 ∨ r = 1 := by omega
  rcases h2 with rfl | rfl
  · exact ⟨x, by simp, .inl rfl⟩
  · exact ⟨y, by simp, .inr rfl⟩
theorem tSo_bd {s o t : Int} (h0 : 0 ≤ o) (h1 : o ≤ s) : (0 ≤ t → 0 ≤ (tSo s o t).1 ∧ (tSo s o t).1 ≤ t) ∧ (t ≤ 0 → t ≤ (tSo s o t).1 ∧ (tSo s o t).1 ≤ 0) := by
  unfold tSo
  split
  · show (_ → 0 ≤ o + t - s ∧ o + t - s ≤ t) ∧ (_ → t ≤ o + t - s ∧ o + t - s ≤ 0)
    omega
  · split
    · show (_ → 0 ≤ o + t ∧ o + t ≤ t) ∧ (_ → t ≤ o + t ∧ o + t ≤ 0)
      omega
    · show (_ → 0 ≤ (0 : Int) ∧ 0 ≤ t) ∧ (_ → t ≤ 0 ∧ (0 : Int) ≤ 0)
      omega

/-- offs within the slacks -/
def Stn.In (p : Pen) (s : Stn) : Prop := (0 ≤ s.o0 ∧ s.o0 ≤ p.s0) ∧ (0 ≤ s.o1 ∧ s.o1 ≤ p.s1)
theorem Stn.Ok.inn {p : Pen} {s : Stn} (h : s.Ok p) : s.In p := ⟨h.o0, h.o1⟩
theorem Stn.In.turn {p : Pen} {s : Stn} (hs : s.In p) (h t : Int) : (s.turn p h t).In p := by
  unfold Stn.turn
  split
  · exact ⟨tSo_in hs.1.1 hs.1.2, hs.2⟩
  · exact ⟨hs.1, tSo_in hs.2.1 hs.2.2⟩
theorem goodD_stn (s : Stn) : goodD 2 s.D = true := by simp [Stn.D, goodD]

theorem Stn.In.run {p : Pen} : ∀ (r : List Trn) {s : Stn}, s.In p → (s.run p r).In p
  | [], _, h => h
  | t :: r, s, h => Stn.In.run r (s := s.step p t) (h.turn t.h t.t)

theorem stn_ix0 (s : Stn) : hIx s.D (.int 0) = some (.tuple [.int s.g0, .int s.g1]) := rfl
theorem stn_ix1 (s : Stn) : hIx s.D (.int 1) = some (.tuple [.int s.o0, .int s.o1]) := rfl
theorem pen_ix0 (p : Pen) : hIx p.D (.int 0) = some (.tuple [.int p.s0, .tuple [.int p.a, .int p.b]]) := rfl
theorem pen_ix1 (p : Pen) : hIx p.D (.int 1) = some (.tuple [.int p.s1, .tuple [.int p.c, .int p.d]]) := rfl

/-! draws -/
theorem sp_law_well (c t : Int) : F__law_well [.int c, .int t] = some (.ow [.int (if 1000000000000000000 ≤ c then c - 1000000000000000000 else 0), .int (c % pBig), .int t]) := by
  have e1 : hPow (.int 10) (.int 18) = some (.int 1000000000000000000) := by rfl
  have e2 : hMod (.int c) (.int 2305843009213693951) = some (.int (c % 2305843009213693951)) := hMod_p (by decide)
  by_cases h : 1000000000000000000 ≤ c
  · simp [F__law_well, runF, b__law_well, startE, e1, e2, h]
  · simp [F__law_well, runF, b__law_well, startE, e1, e2, h]
theorem well_bag (c t : Int) : ∃ x y, F__law_well [.int c, .int t] = some (.ow [.int x, .int y, .int t]) ∧ 0 ≤ x ∧ 0 ≤ y ∧ y < pBig := by
  refine ⟨_, _, sp_law_well c t, ?_, Int.emod_nonneg _ (by decide), Int.emod_lt_of_pos _ (by decide)⟩
  split <;> omega
def bagL (b : List Int) : List PyData := b.map PyData.int
theorem BagOk.mono {n m : Int} {b : List Int} (h : BagOk n b) (e : n ≤ m) : BagOk m b := by
  obtain ⟨x, y, t, h1, h2, h3, h4, h5, h6⟩ := h
  exact ⟨x, y, t, h1, h2, h3, h4, h5, by omega⟩
theorem sp_take {n : Int} {b : List Int} {m : Int} (hb : BagOk n b) (hn : n < 1000000000) (h0 : 0 < m) (h1 : m < 18446744073709551616) :
    ∃ r b', F__law_take (bagL b) [.int m] = some (.sh (.int r), bagL b') ∧ 0 ≤ r ∧ r < m ∧ BagOk (n + 1) b' := by
  obtain ⟨x, y, t, rfl, hx, hy, hy2, ht, ht2⟩ := hb
  by_cases h : 0 < x
  · refine ⟨x % m, [x / m, y, t], ?_, Int.emod_nonneg _ (by omega), Int.emod_lt_of_pos _ h0, _, _, _, rfl, Int.ediv_nonneg hx (by omega), hy, hy2, ht, by omega⟩
    have e1 : hMod (.int x) (.int m) = some (.int (x % m)) := hMod_p h0
    have e2 : hDiv (.int x) (.int m) = some (.int (x / m)) := hDiv_p ⟨h0, h1⟩
    simp [F__law_take, runB, b__law_take, startB, startE, bagL, h, e1, e2, ixN]
  · have q : ∃ z : Int, F__law_take (bagL [x, y, t]) [.int m] = some (.sh (.int (z % m)), bagL [x, y, t + 1]) := by
      have a1 : hMul (.int 1000003) (.int (t + 1)) = some (.int (1000003 * (t + 1))) := hMul_l (by decide)
      have a2 : hMod (.int (y + 1000003 * (t + 1))) (.int 2305843009213693951) = some (.int ((y + 1000003 * (t + 1)) % 2305843009213693951)) := hMod_p (by decide)
      have b1 : 0 ≤ (y + 1000003 * (t + 1)) % 2305843009213693951 := Int.emod_nonneg _ (by decide)
      have b2 : (y + 1000003 * (t + 1)) % 2305843009213693951 < 2305843009213693951 := Int.emod_lt_of_pos _ (by decide)
      generalize (y + 1000003 * (t + 1)) % 2305843009213693951 = u at a2 b1 b2
      have a3 : hMul (.int u) (.int u) = some (.int (u * u)) := hMul_l (by omega)
      have a4 : hPow (.int (t + 1)) (.int 2) = some (.int ((t + 1) ^ 2)) := if_pos ⟨by decide, by decide, by omega, by omega⟩
      have a5 : hMul (.int 7919) (.int ((t + 1) ^ 2)) = some (.int (7919 * (t + 1) ^ 2)) := hMul_l (by decide)
      have a6 : hMod (.int (u * u + 7919 * (t + 1) ^ 2 + 5)) (.int 2305843009213693951) = some (.int ((u * u + 7919 * (t + 1) ^ 2 + 5) % 2305843009213693951)) := hMod_p (by decide)
      have b3 : 0 ≤ (u * u + 7919 * (t + 1) ^ 2 + 5) % 2305843009213693951 := Int.emod_nonneg _ (by decide)
      have b4 : (u * u + 7919 * (t + 1) ^ 2 + 5) % 2305843009213693951 < 2305843009213693951 := Int.emod_lt_of_pos _ (by decide)
      generalize (u * u + 7919 * (t + 1) ^ 2 + 5) % 2305843009213693951 = v at a6 b3 b4
      have a7 : hPow (.int v) (.int 3) = some (.int (v ^ 3)) := if_pos ⟨by decide, by decide, by omega, by omega⟩
      have a8 : hMod (.int (v ^ 3)) (.int 2305843009213693951) = some (.int (v ^ 3 % 2305843009213693951)) := hMod_p (by decide)
      have a9 : hDiv (.int (v ^ 3 % 2305843009213693951)) (.int 13) = some (.int (v ^ 3 % 2305843009213693951 / 13)) := hDiv_p (by decide)
      have a10 : hMod (.int (v ^ 3 % 2305843009213693951 / 13)) (.int m) = some (.int (v ^ 3 % 2305843009213693951 / 13 % m)) := hMod_p h0
      refine ⟨v ^ 3 % 2305843009213693951 / 13, ?_⟩
      simp [F__law_take, runB, b__law_take, startB, startE, bagL, h, ixN, a1, a2, a3, a4, a5, a6, a7, a8, a9, a10]
    obtain ⟨z, q⟩ := q
    exact ⟨z % m, [x, y, t + 1], q, Int.emod_nonneg _ (by omega), Int.emod_lt_of_pos _ h0, _, _, _, rfl, hx, hy, hy2, by omega, by omega⟩

theorem sp_law_lead {n : Int} {b : List Int} (hb : BagOk n b) (hn : n < 990000000) : ∃ x y b', F__law_lead (bagL b) [] = some (.sh (.tuple [.int x, .int y]), bagL b') ∧ (-9 ≤ x ∧ x ≤ 9) ∧ (-9 ≤ y ∧ y ≤ 9) ∧ BagOk (n + 2) b' := by
  obtain ⟨r1, b1, e1, h1, h2, k1⟩ := sp_take (m := 19) hb (by omega) (by decide) (by decide)
  obtain ⟨r2, b2, e2, h3, h4, k2⟩ := sp_take (m := 19) k1 (by omega) (by decide) (by decide)
  refine ⟨r1 - 9, r2 - 9, b2, ?_, by omega, by omega, k2.mono (by omega)⟩
  simp [F__law_lead, runB, b__law_lead, startB, startE, e1, e2]
theorem sp_law_pen {n : Int} {b : List Int} {m : Int} (hb : BagOk n b) (hn : n < 900000000) (h0 : 0 ≤ m) (hm : m ≤ 20) :
    ∃ (p : Pen) (b' : List Int), F__law_pen (bagL b) [.int m] = some (.sh p.D, bagL b') ∧ p.Ok ∧ p.s0 ≤ m ∧ p.s1 ≤ m ∧ BagOk (n + 6) b' := by
  obtain ⟨x1, y1, b1, e1, h1, h2, k1⟩ := sp_law_lead hb (by omega)
  obtain ⟨x2, y2, b2, e2, h3, h4, k2⟩ := sp_law_lead k1 (by omega)
  obtain ⟨r1, b3, e3, h5, h6, k3⟩ := sp_take (m := m + 1) k2 (by omega) (by omega) (by omega)
  obtain ⟨r2, b4, e4, h7, h8, k4⟩ := sp_take (m := m + 1) k3 (by omega) (by omega) (by omega)
  have a1 := hMul_l (j := y2) (mul9 h1)
  have a2 := hMul_l (j := x2) (mul9 h2)
  by_cases h : x1 * y2 = y1 * x2
  · refine ⟨⟨r1, 1, 0, r2, 0, 1⟩, b4, ?_, ⟨by show 0 ≤ r1 ∧ r1 ≤ 20; omega, by show 0 ≤ r2 ∧ r2 ≤ 20; omega, by show (-9 : Int) ≤ 1 ∧ (1 : Int) ≤ 9; decide, by show (-9 : Int) ≤ 0 ∧ (0 : Int) ≤ 9; decide, by show (-9 : Int) ≤ 0 ∧ (0 : Int) ≤ 9; decide, by show (-9 : Int) ≤ 1 ∧ (1 : Int) ≤ 9; decide, by show (1 : Int) * 1 ≠ 0 * 0; decide⟩, by show r1 ≤ m; omega, by show r2 ≤ m; omega, k4.mono (by omega)⟩
    simp [F__law_pen, runB, b__law_pen, startB, startE, e1, e2, e3, e4, a1, a2, h, Pen.D]
  · refine ⟨⟨r1, x1, y1, r2, x2, y2⟩, b4, ?_, ⟨by show 0 ≤ r1 ∧ r1 ≤ 20; omega, by show 0 ≤ r2 ∧ r2 ≤ 20; omega, h1, h2, h3, h4, h⟩, by show r1 ≤ m; omega, by show r2 ≤ m; omega, k4.mono (by omega)⟩
    simp [F__law_pen, runB, b__law_pen, startB, startE, e1, e2, e3, e4, a1, a2, h, Pen.D]
theorem sp_law_stand {n : Int} {b : List Int} {p : Pen} {f : Int} (hb : BagOk n b) (hn : n < 900000000) (hp : p.Ok) (h0 : 0 ≤ f) (hf : f ≤ 1000000000000000) :
    ∃ (s : Stn) (b' : List Int), F__law_stand (bagL b) [p.D, .int f] = some (.sh s.D, bagL b') ∧ s.Ok p ∧ (-f ≤ s.g0 ∧ s.g0 ≤ f) ∧ (-f ≤ s.g1 ∧ s.g1 ≤ f) ∧ BagOk (n + 4) b' := by
  obtain ⟨r1, b1, e1, h1, h2, k1⟩ := sp_take (m := 2 * f + 1) hb (by omega) (by omega) (by omega)
  obtain ⟨r2, b2, e2, h3, h4, k2⟩ := sp_take (m := 2 * f + 1) k1 (by omega) (by omega) (by omega)
  have := hp.s0
  have := hp.s1
  obtain ⟨r3, b3, e3, h5, h6, k3⟩ := sp_take (m := p.s0 + 1) k2 (by omega) (by omega) (by omega)
  obtain ⟨r4, b4, e4, h7, h8, k4⟩ := sp_take (m := p.s1 + 1) k3 (by omega) (by omega) (by omega)
  have a1 : hMul (.int 2) (.int f) = some (.int (2 * f)) := hMul_l (by decide)
  refine ⟨⟨r1 - f, r2 - f, r3, r4⟩, b4, ?_, ⟨by show -1000000000000000 ≤ r1 - f ∧ r1 - f ≤ 1000000000000000; omega, by show -1000000000000000 ≤ r2 - f ∧ r2 - f ≤ 1000000000000000; omega, by show 0 ≤ r3 ∧ r3 ≤ p.s0; omega, by show 0 ≤ r4 ∧ r4 ≤ p.s1; omega⟩, by show -f ≤ r1 - f ∧ r1 - f ≤ f; omega, by show -f ≤ r2 - f ∧ r2 - f ≤ f; omega, k4.mono (by omega)⟩
  unfold Pen.D
  simp [F__law_stand, runB, b__law_stand, startB, startE, e1, e2, e3, e4, a1, Stn.D]

/-- rows as drawn: up to m turns, each so far at most -/
def RowIn (m : Int) (f : Int) (r : List Trn) : Prop := (r.length : Int) ≤ m ∧ ∀ t ∈ r, (t.h = 0 ∨ t.h = 1) ∧ ((-f ≤ t.t ∧ t.t ≤ f) ∨ (-9 ≤ t.t ∧ t.t ≤ 9))
theorem RowIn.ok {m f : Int} {r : List Trn} (h : RowIn m f r) (hm : m ≤ 60) (hf : f ≤ 1000000000000) : RowOk r :=
  ⟨by have := h.1; omega, fun t ht => ⟨(h.2 t ht).1, by have := (h.2 t ht).2; omega, by have := (h.2 t ht).2; omega⟩⟩
theorem sp_law_row {n : Int} {b : List Int} {m f : Int} (hb : BagOk n b) (hn : n < 900000000) (h0 : 0 ≤ m) (hm : m ≤ 60) (h1 : 0 ≤ f) (hf : f ≤ 1000000000000) :
    ∃ (r : List Trn) (b' : List Int), F__law_row (bagL b) [.int m, .int f] = some (.ow (r.map Trn.D), bagL b') ∧ RowIn m f r ∧ BagOk (n + 1 + 4 * m) b' := by
  obtain ⟨r1, b1, e1, g1, g2, k1⟩ := sp_take (m := m + 1) hb (by omega) (by omega) (by omega)
  have key := forL_run (g := gVar 4) (F := fSeq (fSet 5 (fSh (fBin hIx (fFz (fLst (fCons (fVar 2) (fCons (fC (.int 9)) (fCons (fC (.int 3)) fNil))))) (fFz (fCallB 0 1 F__law_take (fCons (fC (.int 3)) fNil))))))
    (fAppend 3 (fTup (fCons (fFz (fCallB 0 1 F__law_take (fCons (fC (.int 2)) fNil))) (fCons (fBin hSub (fFz (fCallB 0 1 F__law_take (fCons (fBin hAdd (fBin hMul (fC (.int 2)) (fVar 5)) (fC (.int 1))) fNil))) (fVar 5)) (fCons (fBin hGt (fFz (fCallB 0 1 F__law_take (fCons (fC (.int 3)) fNil))) (fC (.int 0))) fNil))))))
    (toD := fun (k : Nat) => PyData.int (k : Int)) (xs := List.range r1.toNat)
    (ρ := [.io (bagL b1), .sh (.int m), .sh (.int f), .ow [], .un, .un]) (Inv := fun pre ρ => ∃ (r : List Trn) (b' : List Int) (x y : Sl), ρ = [.io (bagL b'), .sh (.int m), .sh (.int f), .ow (r.map Trn.D), x, y] ∧ RowIn pre.length f r ∧ r.length = pre.length ∧ BagOk (n + 1 + 4 * pre.length) b')
    ⟨[], b1, .un, .un, rfl, ⟨Int.le_refl _, fun t ht => by cases ht⟩, rfl, k1.mono (by simp)⟩ (fun pre k post ρ1 e ⟨r, b', x, y, hρ, hr, hrl, kb⟩ => by
      subst hρ
      have hlen : pre.length < 60 := by
        have h2 : (List.range r1.toNat).length = (pre ++ k :: post).length := by rw [e]
        rw [List.length_range, List.length_append, List.length_cons] at h2
        omega
      obtain ⟨w1, b2, e2, g3, g4, k2⟩ := sp_take (m := 3) kb (by omega) (by decide) (by decide)
      have wide : ∃ w : Int, atI [PyData.int f, .int 9, .int 3] w1 = some (.int w) ∧ 0 ≤ w ∧ (w = f ∨ w ≤ 9) ∧ w ≤ 1000000000000 := by
        have h3 : w1 = 0 ∨ w1 = 1 ∨ w1 = 2 := by omega
        rcases h3 with rfl | rfl | rfl
        · exact ⟨f, by simp, h1, .inl rfl, hf⟩
        · exact ⟨9, by simp, by decide, .inr (by decide), by decide⟩
        · exact ⟨3, by simp, by decide, .inr (by decide), by decide⟩
      obtain ⟨wd, e3, hw0, hw1, hw2⟩ := wide
      obtain ⟨w2, b3, e4, g5, g6, k3⟩ := sp_take (m := 2) k2 (by omega) (by decide) (by decide)
      have a1 : hMul (.int 2) (.int wd) = some (.int (2 * wd)) := hMul_l (by decide)
      obtain ⟨w3, b4, e5, g7, g8, k4⟩ := sp_take (m := 2 * wd + 1) k3 (by omega) (by omega) (by omega)
      obtain ⟨w4, b5, e6, g9, g10, k5⟩ := sp_take (m := 3) k4 (by omega) (by decide) (by decide)
      have hl : r.length < 16777216 := by omega
      refine ⟨_, rfl, [.io (bagL b5), .sh (.int m), .sh (.int f), .ow (r.map Trn.D ++ [Trn.D ⟨w2, w3 - wd, decide (0 < w4)⟩]), .sh (.int (k : Int)), .sh (.int wd)], ?_, r ++ [⟨w2, w3 - wd, decide (0 < w4)⟩], b5, _, _, by rw [List.map_append]; rfl, ⟨?_, fun t ht => ?_⟩, ?_, k5.mono ?_⟩
      · simp [e2, e3, e4, a1, e5, e6, hl, Trn.D]
      · rw [List.length_append, List.length_append, hrl]
        exact Int.le_refl _
      · rcases List.mem_append.mp ht with h4 | h4
        · exact hr.2 t h4
        · rw [List.mem_singleton] at h4
          subst h4
          refine ⟨by show w2 = 0 ∨ w2 = 1; omega, ?_⟩
          show (-f ≤ w3 - wd ∧ w3 - wd ≤ f) ∨ (-9 ≤ w3 - wd ∧ w3 - wd ≤ 9)
          rcases hw1 with h5 | h5
          · left
            omega
          · right
            omega
      · rw [List.length_append, List.length_append, hrl]
        rfl
      · rw [List.length_append]
        show n + 1 + 4 * (pre.length : Int) + 1 + 1 + 1 + 1 ≤ n + 1 + 4 * ((pre.length + 1 : Nat) : Int)
        omega)
  obtain ⟨ρ', e2, r, b', x, y, e3, hr, hrl, kb⟩ := key
  subst e3
  rw [List.length_range] at hr hrl kb
  have hm2 : ((r1.toNat : Nat) : Int) ≤ m := by omega
  refine ⟨r, b', ?_, ⟨Int.le_trans hr.1 hm2, hr.2⟩, kb.mono (by omega)⟩
  have a1 := rg1_eq (j := r1) (by omega)
  simp [F__law_row, runB, b__law_row, startB, startE, e1, a1, e2]

/-- the middle of three -/
theorem srt3 (k g o t s : Int) (hk : k = g + o + t) (h0 : 0 ≤ o) (h1 : o ≤ s) : ∃ x y, srtI [k - s, g, k] = [x, g + (tSo s o t).1, y] := by
  have ha : (tSo s o t).1 = if o + t > s then o + t - s else if o + t < 0 then o + t else 0 := by
    unfold tSo
    split
    · rfl
    · split <;> rfl
  rw [ha]
  show ∃ x y, insI (k - s) (insI g (insI k [])) = _
  show ∃ x y, insI (k - s) (if g ≤ k then [g, k] else [k, g]) = _
  by_cases c1 : g ≤ k
  · rw [if_pos c1]
    by_cases c2 : k - s ≤ g
    · refine ⟨k - s, k, ?_⟩
      show (if k - s ≤ g then [k - s, g, k] else _) = _
      rw [if_pos c2, if_neg (by omega), if_neg (by omega)]
      congr 2
      omega
    · refine ⟨g, k, ?_⟩
      show (if k - s ≤ g then [k - s, g, k] else g :: (if k - s ≤ k then [k - s, k] else [k, k - s])) = _
      rw [if_neg c2, if_pos (show k - s ≤ k by omega), if_pos (by omega)]
      congr 2
      omega
  · rw [if_neg c1]
    refine ⟨k - s, g, ?_⟩
    show (if k - s ≤ k then [k - s, k, g] else _) = _
    rw [if_pos (show k - s ≤ k by omega), if_neg (by omega), if_pos (by omega)]
    congr 2
    omega

theorem sp_law_turned {p : Pen} {s : Stn} {h t : Int} (hh : h = 0 ∨ h = 1) (hs : s.In p) : F__law_turned [p.D, s.D, .int h, .int t] = some (.sh (s.turn p h t).D) := by
  rcases hh with rfl | rfl
  · obtain ⟨x, y, e⟩ := srt3 (s.g0 + s.o0 + t) s.g0 s.o0 t p.s0 rfl hs.1.1 hs.1.2
    have e2 : s.g0 + s.o0 + t - (s.g0 + (tSo p.s0 s.o0 t).1) = (tSo p.s0 s.o0 t).2 := by
      have := tSo_sum p.s0 s.o0 t
      omega
    simp [F__law_turned, runF, b__law_turned, startE, Pen.D, Stn.D, Stn.turn, e, ixN, e2]
  · obtain ⟨x, y, e⟩ := srt3 (s.g1 + s.o1 + t) s.g1 s.o1 t p.s1 rfl hs.2.1 hs.2.2
    have e2 : s.g1 + s.o1 + t - (s.g1 + (tSo p.s1 s.o1 t).1) = (tSo p.s1 s.o1 t).2 := by
      have := tSo_sum p.s1 s.o1 t
      omega
    simp [F__law_turned, runF, b__law_turned, startE, Pen.D, Stn.D, Stn.turn, e, ixN, e2]

/-! equal, and of the same kinds all through -/
theorem isiT_none {Ts : List String} : hIsiT Ts .none = (kitAnyB "NoneType" Ts).map PyData.bool := rfl
theorem isiT_bool {Ts : List String} {b : Bool} : hIsiT Ts (.bool b) = (kitAnyB "bool" Ts).map PyData.bool := rfl
theorem isiT_int {Ts : List String} {b : Int} : hIsiT Ts (.int b) = (kitAnyB "int" Ts).map PyData.bool := rfl
theorem kT_n : kitAnyB "NoneType" ["bool", "list", "tuple"] = some false := by decide +kernel
theorem kT_b : kitAnyB "bool" ["bool", "list", "tuple"] = some true := by decide +kernel
theorem kT_i : kitAnyB "int" ["bool", "list", "tuple"] = some false := by decide +kernel
theorem zipD_map (xs : List PyData) : zipD xs xs = xs.map fun x => PyData.tuple [x, x] := by
  unfold zipD
  induction xs with
  | nil => rfl
  | cons x xs ih => simp [List.zipWith, ih]
theorem hEq_bool (b : Bool) : hEq (.bool b) (.bool b) = some (.bool true) := by cases b <;> rfl
theorem sp_same : ∀ (n : Nat) (d : PyData), goodD n d = true → F__law_same (n + 1) [d, d] = some (.sh (.bool true)) := by
  intro n
  induction n with
  | zero =>
    intro d h
    cases d with
    | none => simp [F__law_same, runF, b__law_same, startE, isi_list (d := .none) rfl, isi_tup (d := .none) rfl, isi_int (d := .none) rfl, isi_str (d := .none) rfl, kList, kTup, kInt, kStr, isiT_none, kT_n, hIsN, isN]
    | bool b => simp [F__law_same, runF, b__law_same, startE, isi_list (d := .bool b) rfl, isi_tup (d := .bool b) rfl, kList, kTup, isiT_bool, kT_b, hEq_bool]
    | int b => simp [F__law_same, runF, b__law_same, startE, isi_list (d := .int b) rfl, isi_tup (d := .int b) rfl, kList, kTup, isiT_int, kT_i]
    | str x => simp [goodD] at h
    | list xs => simp [goodD] at h
    | tuple xs => simp [goodD] at h
    | dict xs => simp [goodD] at h
  | succ n sp_same =>
    intro d h
    cases d with
    | none => simp [F__law_same, runF, b__law_same, startE, isi_list (d := .none) rfl, isi_tup (d := .none) rfl, isi_int (d := .none) rfl, isi_str (d := .none) rfl, kList, kTup, kInt, kStr, isiT_none, kT_n, hIsN, isN]
    | bool b => simp [F__law_same, runF, b__law_same, startE, isi_list (d := .bool b) rfl, isi_tup (d := .bool b) rfl, kList, kTup, isiT_bool, kT_b, hEq_bool]
    | int b => simp [F__law_same, runF, b__law_same, startE, isi_list (d := .int b) rfl, isi_tup (d := .int b) rfl, kList, kTup, isiT_int, kT_i]
    | str x => simp [goodD] at h
    | dict xs => simp [goodD] at h
    | list xs =>
      simp only [goodD, Bool.and_eq_true, decide_eq_true_eq, List.all_eq_true] at h
      have e1 : lcL [2, 3] (gTu 2 (gCo (gVar 2) (gCo (gVar 3) gNo))) fYes (fFz (fCallR 2 (F__law_same (n + 1)) (fCons (fVar 2) (fCons (fVar 3) fNil)))) (xs.map fun x => PyData.tuple [x, x]) [.sh (.list xs), .sh (.list xs), .un, .un] = some (xs.map fun _ => PyData.bool true, [.sh (.list xs), .sh (.list xs), .un, .un]) :=
        lcL_map (fun x => PyData.tuple [x, x]) (fun _ => PyData.bool true) xs fun x hx => ⟨_, [.sh (.list xs), .sh (.list xs), .sh x, .sh x], rfl, by simp [sp_same x (h.2 x hx)], rfl⟩
      have e2 : xs.length ≤ 16000000 := by omega
      unfold F__law_same
      simp [runF, b__law_same, startE, zipD_map, e1, e2, boolsO_all]
    | tuple xs =>
      simp only [goodD, Bool.and_eq_true, decide_eq_true_eq, List.all_eq_true] at h
      have e1 : lcL [2, 3] (gTu 2 (gCo (gVar 2) (gCo (gVar 3) gNo))) fYes (fFz (fCallR 2 (F__law_same (n + 1)) (fCons (fVar 2) (fCons (fVar 3) fNil)))) (xs.map fun x => PyData.tuple [x, x]) [.sh (.tuple xs), .sh (.tuple xs), .un, .un] = some (xs.map fun _ => PyData.bool true, [.sh (.tuple xs), .sh (.tuple xs), .un, .un]) :=
        lcL_map (fun x => PyData.tuple [x, x]) (fun _ => PyData.bool true) xs fun x hx => ⟨_, [.sh (.tuple xs), .sh (.tuple xs), .sh x, .sh x], rfl, by simp [sp_same x (h.2 x hx)], rfl⟩
      have e2 : xs.length ≤ 16000000 := by omega
      unfold F__law_same
      simp [runF, b__law_same, startE, zipD_map, isi_list (d := .tuple xs) rfl, kList, e1, e2, boolsO_all]

theorem goodD_mono : ∀ {n : Nat} {d : PyData}, goodD n d = true → goodD (n + 1) d = true := by
  intro n
  induction n with
  | zero => intro d h; cases d <;> first | rfl | (simp [goodD] at h)
  | succ n ih =>
    intro d h
    cases d with
    | none => rfl
    | bool b => rfl
    | int b => rfl
    | str b => simp [goodD] at h
    | dict b => simp [goodD] at h
    | list xs =>
      rw [goodD] at h ⊢
      simp only [Bool.and_eq_true, decide_eq_true_eq, List.all_eq_true] at h ⊢
      exact ⟨h.1, fun x hx => ih (h.2 x hx)⟩
    | tuple xs =>
      rw [goodD] at h ⊢
      simp only [Bool.and_eq_true, decide_eq_true_eq, List.all_eq_true] at h ⊢
      exact ⟨h.1, fun x hx => ih (h.2 x hx)⟩
theorem goodD_le {n m : Nat} {d : PyData} (h : goodD n d = true) (hm : n ≤ m) : goodD m d = true := by
  induction hm with
  | refl => exact h
  | step _ ih => exact goodD_mono ih

theorem sp_same8 {d : PyData} (n : Nat) (h : goodD n d = true) (hn : n ≤ 7 := by decide) : F__law_same 8 [d, d] = some (.sh (.bool true)) := sp_same 7 d (goodD_le h hn)

/-! strokes of one line, joined -/
def joinStep (fs : List (Int × Int)) (x : Int × Int) : List (Int × Int) := match fs.getLast? with
  | some y => if x.1 ≤ y.2 then fs.dropLast ++ [(y.1, if x.2 > y.2 then x.2 else y.2)] else fs ++ [x]
  | none => fs ++ [x]
def joinL (l : List (Int × Int)) : List (Int × Int) := (l.mergeSort ppLe).foldl joinStep []
theorem joinStep_len (fs : List (Int × Int)) (x : Int × Int) : (joinStep fs x).length ≤ fs.length + 1 := by
  unfold joinStep
  split
  · split
    · rw [List.length_append, List.length_dropLast, List.length_singleton]
      omega
    · simp
  · simp
theorem foldl_snoc {α β : Type} (f : β → α → β) (b : β) (l : List α) (x : α) : (l ++ [x]).foldl f b = f (l.foldl f b) x := by
  rw [List.foldl_append]
  rfl
theorem joinF_len (l : List (Int × Int)) : (l.foldl joinStep []).length ≤ l.length := by
  have go : ∀ (l fs : List (Int × Int)), (l.foldl joinStep fs).length ≤ fs.length + l.length := by
    intro l
    induction l with
    | nil => intro fs; simp
    | cons x l ih =>
      intro fs
      have h1 := ih (joinStep fs x)
      have h2 := joinStep_len fs x
      rw [List.foldl_cons, List.length_cons]
      omega
  have := go l []
  simpa using this
theorem joinL_len (l : List (Int × Int)) : (joinL l).length ≤ l.length := by
  have := joinF_len (l.mergeSort ppLe)
  rw [List.length_mergeSort] at this
  exact this
theorem goodD_kps (l : List (Int × Int)) (h : l.length ≤ 1000000) : goodD 2 (.list (l.map kpD)) = true := by
  simp only [goodD, Bool.and_eq_true, decide_eq_true_eq, List.all_eq_true, List.length_map]
  refine ⟨h, fun x hx => ?_⟩
  obtain ⟨y, _, rfl⟩ := List.mem_map.mp hx
  simp [kpD, goodD]
theorem ne_nil_kps (l : List (Int × Int)) (y : Int × Int) (h : l.length + 1 ≤ 1000000) : hNe (.list (l.map kpD ++ [kpD y])) (.list []) = some (.bool true) := by
  have g : goodD 2 (.list (l.map kpD ++ [kpD y])) = true := by
    have := goodD_kps (l ++ [y]) (by rw [List.length_append]; exact h)
    rw [List.map_append] at this
    exact this
  have h1 := goodD_shaped 2 g (by decide)
  unfold hNe
  rw [if_pos ⟨h1, rfl⟩]
  cases l <;> rfl
theorem ixN_last (n : Nat) : ixN (n + 1) (-1) = some n := by
  unfold ixN
  rw [if_neg (by decide), if_pos (by omega)]
  congr 1
  omega
theorem set_last {α : Type} (x y : α) : ∀ l : List α, (l ++ [x]).set l.length y = l ++ [y]
  | [] => rfl
  | z :: l => by
    show z :: (l ++ [x]).set l.length y = _
    rw [set_last x y l]
    rfl
theorem join_turn {l : List (Int × Int)} {a : Sl} {x : Int × Int} (hl : l.length ≤ 2000) : b_joined_1 [a, .ow (l.map kpD), .sh (.int x.1), .sh (.int x.2)] = some (.nx [a, .ow ((joinStep l x).map kpD), .sh (.int x.1), .sh (.int x.2)]) := by
  rcases List.eq_nil_or_concat l with rfl | ⟨m, y, rfl⟩
  · have e : hNe (.list []) (.list []) = some (.bool false) := hNe_self 1 rfl
    cases a <;> simp [b_joined_1, shS, e, joinStep, kpD]
  · have hm : m.length + 1 ≤ 2000 := by simpa using hl
    have e := ne_nil_kps m y (by omega)
    have e2 : atI (m.map kpD ++ [kpD y]) (-1) = some (kpD y) := atI_last _ _
    have e3 : ixN (m.length + 1) (-1) = some m.length := ixN_last _
    have e4 : (m.map kpD ++ [kpD y]).set m.length (.tuple [.int y.1, .int (if x.2 > y.2 then x.2 else y.2)]) = m.map kpD ++ [.tuple [.int y.1, .int (if x.2 > y.2 then x.2 else y.2)]] := by
      have := set_last (kpD y) (.tuple [.int y.1, .int (if x.2 > y.2 then x.2 else y.2)]) (m.map kpD)
      rwa [List.length_map] at this
    have e5 : hIx (kpD y) (.int 0) = some (.int y.1) := rfl
    have e6 : hIx (kpD y) (.int 1) = some (.int y.2) := rfl
    have e7 : joinStep (m ++ [y]) x = if x.1 ≤ y.2 then m ++ [(y.1, if x.2 > y.2 then x.2 else y.2)] else m ++ [y] ++ [x] := by
      unfold joinStep
      rw [List.getLast?_concat]
      simp
    have hml : (m.map kpD).length = m.length := List.length_map ..
    rw [List.concat_eq_append, e7]
    have hl2 : m.length + 1 < 16777216 := by omega
    by_cases h : x.1 ≤ y.2
    · rw [if_pos h]
      simp only [List.map_append, List.map_cons, List.map_nil]
      have k1 : kpD (y.1, if x.2 > y.2 then x.2 else y.2) = .tuple [.int y.1, .int (if x.2 > y.2 then x.2 else y.2)] := rfl
      rw [k1]
      clear e7 hm hl k1
      generalize kpD y = Y at *
      generalize m.map kpD = M at *
      cases a <;> simp [b_joined_1, shS, e, e2, e3, e4, e5, e6, h, hml]
    · rw [if_neg h]
      simp only [List.map_append, List.map_cons, List.map_nil]
      have k1 : kpD x = .tuple [.int x.1, .int x.2] := rfl
      rw [k1]
      clear e7 hm hl k1
      generalize kpD y = Y at *
      generalize m.map kpD = M at *
      cases a <;> simp [b_joined_1, shS, e, e2, e3, e5, e6, h, hml, hl2]
theorem sp_joined {l : List (Int × Int)} (hl : l.length ≤ 1000) : F_joined [.list (l.map kpD)] = some (.ow ((joinL l).map kpD)) := by
  have key := forL_run (g := gTu 2 (gCo (gVar 2) (gCo (gVar 3) gNo))) (F := b_joined_1) (toD := kpD) (xs := l.mergeSort ppLe) (ρ := [.sh (.list (l.map kpD)), .ow [], .un, .un]) (Inv := fun pre ρ => ∃ u w, ρ = [.sh (.list (l.map kpD)), .ow ((pre.foldl joinStep []).map kpD), u, w]) ⟨_, _, rfl⟩
    (fun pre x post ρ1 e ⟨u, w, hρ⟩ => by
      subst hρ
      have hn : pre.length ≤ 1000 := by
        have h1 := congrArg List.length e
        rw [List.length_mergeSort, List.length_append] at h1
        omega
      have h2 := joinF_len pre
      exact ⟨_, rfl, _, join_turn (by omega), .sh (.int x.1), .sh (.int x.2), by rw [foldl_snoc]⟩)
  obtain ⟨ρ', e1, u, w, rfl⟩ := key
  simp [F_joined, runF, b_joined, startE, kpsD_map, e1, joinL]
/-! strokes of lines -/
abbrev G2 := List ((Int × Int) × List (Int × Int))
def toG (g : G2) : Gm := g.map fun x => (pkK x.1, x.2.map kpD)
def toK (g : G2) : List (List Key × PyData) := g.map fun x => (pkK x.1, .list (x.2.map kpD))
theorem gD_toG (g : G2) : gD (toG g) = toK g := by
  unfold gD toG toK
  rw [List.map_map]
  rfl
def lk2 : G2 → Int × Int → List (Int × Int)
  | [], _ => []
  | x :: g, k => if x.1 = k then x.2 else lk2 g k
theorem valD_toK {k : Int × Int} : ∀ {g : G2}, k ∈ g.map (·.1) → valD (toK g) (pkK k) = some (.list ((lk2 g k).map kpD))
  | [], h => by cases h
  | x :: g, h => by
    show (if pkK x.1 = pkK k then some (PyData.list (x.2.map kpD)) else valD (toK g) (pkK k)) = _
    unfold lk2
    by_cases e : x.1 = k
    · rw [if_pos (by rw [e]), if_pos e]
    · rw [if_neg (fun q => e (pkK_inj q)), if_neg e]
      rcases List.mem_cons.mp h with z | z
      · exact (e z.symm).elim
      · exact valD_toK z
theorem keysP_toK : ∀ g : G2, keysP (toK g) = some (g.map (·.1))
  | [] => rfl
  | x :: g => by
    show (keysP (toK g)).map ((x.1.1, x.1.2) :: ·) = _
    rw [keysP_toK g]
    rfl
def st4 (z : (Int × Int) × Int × Int) : PyData := .tuple [.int z.1.1, .int z.1.2, .int z.2.1, .int z.2.2]
def lineL (g : G2) (k : Int × Int) : List ((Int × Int) × Int × Int) := (joinL (lk2 g k)).map fun y => (k, y)
def strokeL (g : G2) : List ((Int × Int) × Int × Int) := ((g.map (·.1)).mergeSort ppLe).flatMap (lineL g)
def GSm (n : Nat) (g : G2) : Prop := g.length ≤ n ∧ ∀ x ∈ g, x.2.length ≤ n
theorem lk2_len {n : Nat} {k : Int × Int} : ∀ {g : G2}, (∀ x ∈ g, x.2.length ≤ n) → (lk2 g k).length ≤ n
  | [], _ => Nat.zero_le _
  | x :: g, h => by
    unfold lk2
    split
    · exact h x List.mem_cons_self
    · exact lk2_len fun y hy => h y (List.mem_cons_of_mem _ hy)
theorem line_len {n : Nat} {g : G2} (h : GSm n g) (k : Int × Int) : (lineL g k).length ≤ n := by
  unfold lineL
  rw [List.length_map]
  exact Nat.le_trans (joinL_len _) (lk2_len h.2)
theorem flat_len {α β : Type} {f : α → List β} {n : Nat} (h : ∀ x, (f x).length ≤ n) : ∀ l : List α, (l.flatMap f).length ≤ l.length * n
  | [] => by simp
  | x :: l => by
    rw [List.flatMap_cons, List.length_append, List.length_cons, Nat.succ_mul]
    have := h x
    have := flat_len h l
    omega
theorem lc4 (k : Int × Int) (m : List (List Key × PyData)) (u : Sl) : ∀ l : List (Int × Int), lcL [4, 5] (gTu 2 (gCo (gVar 4) (gCo (gVar 5) gNo))) fYes (fTup (fCons (fVar 2) (fCons (fVar 3) (fCons (fVar 4) (fCons (fVar 5) fNil))))) (l.map kpD) [.lt m, u, .sh (.int k.1), .sh (.int k.2), .un, .un] = some (l.map fun y => st4 (k, y), [.lt m, u, .sh (.int k.1), .sh (.int k.2), .un, .un]) := fun l =>
  lcL_map kpD (fun y => st4 (k, y)) l fun y hy => ⟨[.lt m, u, .sh (.int k.1), .sh (.int k.2), .sh (.int y.1), .sh (.int y.2)], [.lt m, u, .sh (.int k.1), .sh (.int k.2), .sh (.int y.1), .sh (.int y.2)], rfl, by simp [st4], rfl⟩
theorem sp_strokes {g : G2} (hg : GSm 100 g) : F_strokes_of (toK g) = some (.sh (.tuple ((strokeL g).map st4))) := by
  have key := forL_run (g := gTu 2 (gCo (gVar 2) (gCo (gVar 3) gNo))) (F := b_strokes_of_1) (toD := kpD) (xs := (g.map (·.1)).mergeSort ppLe) (ρ := [.lt (toK g), .ow [], .un, .un, .un, .un]) (Inv := fun pre ρ => ∃ u w, ρ = [.lt (toK g), .ow ((pre.flatMap (lineL g)).map st4), u, w, .un, .un]) ⟨_, _, rfl⟩
    (fun pre k post ρ1 e ⟨u, w, hρ⟩ => by
      subst hρ
      have hk : k ∈ g.map (·.1) := by
        have : k ∈ (g.map (·.1)).mergeSort ppLe := by rw [e]; simp
        exact List.mem_mergeSort.mp this
      have hn : pre.length ≤ 100 := by
        have h1 := congrArg List.length e
        rw [List.length_mergeSort, List.length_append, List.length_map] at h1
        have := hg.1
        omega
      have v1 : getS (some (.lt (toK g))) (.tuple [.int k.1, .int k.2]) = some (some (.list ((lk2 g k).map kpD))) := by
        show (tkeyD (.tuple [.int k.1, .int k.2])).map (valD (toK g)) = _
        have : tkeyD (.tuple [.int k.1, .int k.2]) = some (pkK k) := rfl
        rw [this, Option.map_some, valD_toK hk]
      have j1 := sp_joined (l := lk2 g k) (Nat.le_trans (lk2_len hg.2) (by decide))
      have l1 := lc4 k (toK g) (.ow ((pre.flatMap (lineL g)).map st4)) (joinL (lk2 g k))
      have n1 : (joinL (lk2 g k)).length ≤ 100 := Nat.le_trans (joinL_len _) (lk2_len hg.2)
      have n2 : (pre.flatMap (lineL g)).length ≤ 10000 := by
        have := flat_len (line_len hg) pre
        have : pre.length * 100 ≤ 100 * 100 := Nat.mul_le_mul_right _ hn
        omega
      have n3 : (pre.flatMap (lineL g)).length + (joinL (lk2 g k)).length ≤ 16777216 := by omega
      have n4 : (joinL (lk2 g k)).length ≤ 16000000 := by omega
      refine ⟨_, rfl, [.lt (toK g), .ow ((pre.flatMap (lineL g)).map st4 ++ (joinL (lk2 g k)).map fun y => st4 (k, y)), .sh (.int k.1), .sh (.int k.2), .un, .un], ?_, .sh (.int k.1), .sh (.int k.2), ?_⟩
      · generalize hP : pre.flatMap (lineL g) = P at l1 n2 n3 ⊢
        unfold b_strokes_of_1
        generalize hJ : joinL (lk2 g k) = J at j1 l1 n1 n3 n4 ⊢
        simp [isD, v1, j1, l1, n3, n4]
      · rw [List.flatMap_append, List.map_append]
        simp [lineL, Function.comp_def])
  obtain ⟨ρ', e1, u, w, rfl⟩ := key
  have d2 : fForSK 0 (gTu 2 (gCo (gVar 2) (gCo (gVar 3) gNo))) b_strokes_of_1 [.lt (toK g), .ow [], .un, .un, .un, .un] = some (.nx [.lt (toK g), .ow (((g.map (·.1)).mergeSort ppLe |>.flatMap (lineL g)).map st4), u, w, .un, .un]) := by
    unfold fForSK
    simp only [List.getElem?_cons_zero, keysP_toK, Option.bind_some]
    exact e1
  unfold F_strokes_of runK b_strokes_of
  show (fSeq (fSet 1 (fLst fNil)) _ [.lt (toK g), .un, .un, .un, .un, .un]).bind resO = _
  simp [d2, strokeL]

/-! drawing -/
theorem gLoop_run {α : Type} {gt : FG} {F : FG2} {toD : α → PyData} {xs : List α} {p : En × Gm} {Inv : List α → En × Gm → Prop} (h0 : Inv [] p) (hs : ∀ pre x post p1, xs = pre ++ x :: post → Inv pre p1 → ∃ ρ2, gt (toD x) p1.1 = some ρ2 ∧ ∃ p3, F (ρ2, p1.2) = some p3 ∧ Inv (pre ++ [x]) p3) :
    ∃ p', gLoop gt F (xs.map toD) p = some p' ∧ Inv xs p' := by
  have go : ∀ (post pre : List α) (p1 : En × Gm), xs = pre ++ post → Inv pre p1 → ∃ p', gLoop gt F (post.map toD) p1 = some p' ∧ Inv xs p' := by
    intro post
    induction post with
    | nil =>
      intro pre p1 e h
      rw [List.append_nil] at e
      subst e
      exact ⟨p1, rfl, h⟩
    | cons x post ih =>
      intro pre p1 e h
      obtain ⟨ρ2, h1, p3, h2, h3⟩ := hs pre x post p1 e h
      obtain ⟨p', h4, h5⟩ := ih (pre ++ [x]) p3 (by rw [e, List.append_assoc]; rfl) h3
      refine ⟨p', ?_, h5⟩
      show ((gt (toD x) p1.1).bind fun ρ1 => (F (ρ1, p1.2)).bind (gLoop gt F (post.map toD))) = some p'
      rw [h1, Option.bind_some, h2, Option.bind_some]
      exact h4
  exact go xs [] p rfl h0
def add2 : G2 → Int × Int → Int × Int → G2
  | [], k, d => [(k, [d])]
  | x :: g, k, d => if x.1 = k then (x.1, x.2 ++ [d]) :: g else x :: add2 g k d
theorem addG_toG (k d : Int × Int) : ∀ g : G2, addG (toG g) (pkK k) (kpD d) = toG (add2 g k d)
  | [] => rfl
  | x :: g => by
    show (if pkK x.1 = pkK k then (pkK x.1, x.2.map kpD ++ [kpD d]) :: toG g else (pkK x.1, x.2.map kpD) :: addG (toG g) (pkK k) (kpD d)) = _
    unfold add2
    by_cases e : x.1 = k
    · rw [if_pos (by rw [e]), if_pos e]
      unfold toG
      rw [List.map_cons, List.map_append]
      rfl
    · rw [if_neg (fun q => e (pkK_inj q)), if_neg e, addG_toG k d g]
      rfl
theorem add2_len (k d : Int × Int) : ∀ g : G2, (add2 g k d).length ≤ g.length + 1
  | [] => Nat.le_refl 1
  | x :: g => by
    have ih := add2_len k d g
    unfold add2
    split
    · simp only [List.length_cons]
      omega
    · simp only [List.length_cons]
      omega
theorem add2_val {n : Nat} (k d : Int × Int) : ∀ g : G2, (∀ y ∈ g, y.2.length ≤ n) → ∀ y ∈ add2 g k d, y.2.length ≤ n + 1
  | [], _, y, hy => by
    rw [List.mem_singleton.mp hy]
    show 1 ≤ n + 1
    omega
  | x :: g, h, y, hy => by
    have ih := add2_val k d g fun y hy => h y (List.mem_cons_of_mem _ hy)
    have hx := h x List.mem_cons_self
    unfold add2 at hy
    split at hy
    · rcases List.mem_cons.mp hy with e | hy
      · rw [e]
        show (x.2 ++ [d]).length ≤ n + 1
        rw [List.length_append, List.length_singleton]
        omega
      · have := h y (List.mem_cons_of_mem _ hy)
        omega
    · rcases List.mem_cons.mp hy with e | hy
      · rw [e]
        omega
      · exact ih y hy
theorem GSm.add {n : Nat} {k d : Int × Int} {g : G2} (h : GSm n g) : GSm (n + 1) (add2 g k d) :=
  ⟨Nat.le_trans (add2_len k d g) (Nat.succ_le_succ h.1), add2_val k d g h.2⟩
theorem gSmall_toG {n : Nat} {g : G2} (h : GSm n g) (hn : n ≤ 1000000) : gSmall (toG g) = true := by
  unfold gSmall toG
  rw [Bool.and_eq_true, decide_eq_true_eq, List.length_map, List.all_eq_true]
  refine ⟨Nat.le_trans h.1 hn, fun x hx => ?_⟩
  obtain ⟨y, hy, rfl⟩ := List.mem_map.mp hx
  rw [decide_eq_true_eq]
  show (y.2.map kpD).length ≤ 1000000
  rw [List.length_map]
  exact Nat.le_trans (h.2 y hy) hn
/-- the gear of a hand -/
def Stn.g (s : Stn) (h : Int) : Int := if h = 0 then s.g0 else s.g1
def drawG (g : G2) (h across b a : Int) (d : Bool) : G2 := if d = true ∧ b ≠ a then add2 g (h, across) (if a < b then a else b, if a > b then a else b) else g
def dgStep (p : Pen) (c : Stn × G2) (t : Trn) : Stn × G2 := (c.1.turn p t.h t.t, drawG c.2 t.h (c.1.g (1 - t.h)) (c.1.g t.h) ((c.1.turn p t.h t.t).g t.h) t.d)
def dgRun (p : Pen) (s : Stn) (r : List Trn) : Stn × G2 := r.foldl (dgStep p) (s, [])
theorem GSm.draw {n : Nat} {g : G2} (h : GSm n g) (k a b c : Int) (d : Bool) : GSm (n + 1) (drawG g k a b c d) := by
  unfold drawG
  split
  · exact h.add
  · exact ⟨Nat.le_succ_of_le h.1, fun x hx => Nat.le_succ_of_le (h.2 x hx)⟩
theorem dgRun_snoc (p : Pen) (s : Stn) (r : List Trn) (t : Trn) : dgRun p s (r ++ [t]) = dgStep p (dgRun p s r) t := by
  unfold dgRun
  rw [List.foldl_append]
  rfl
theorem dgRun_small (p : Pen) (s : Stn) (r : List Trn) : GSm r.length (dgRun p s r).2 := by
  have go : ∀ (r : List Trn) (c : Stn × G2) (n : Nat), GSm n c.2 → GSm (n + r.length) (r.foldl (dgStep p) c).2 := by
    intro r
    induction r with
    | nil => exact fun c n h => h
    | cons t r ih =>
      intro c n h
      have := ih (dgStep p c t) (n + 1) (h.draw _ _ _ _ _)
      rw [List.foldl_cons, List.length_cons]
      have e : n + (r.length + 1) = n + 1 + r.length := by omega
      rw [e]
      exact this
  have := go r (s, []) 0 ⟨Nat.le_refl 0, fun x hx => by cases hx⟩
  rwa [Nat.zero_add] at this
theorem stn_gx (s : Stn) {h : Int} (hh : h = 0 ∨ h = 1) : hIx (.tuple [.int s.g0, .int s.g1]) (.int h) = some (.int (s.g h)) := by
  rcases hh with rfl | rfl <;> rfl
theorem gear_ne (b a : Int) : hNe (.int b) (.int a) = some (.bool (!decide (b = a))) := by
  unfold hNe
  rw [if_pos ⟨rfl, rfl⟩]
  simp only [PyData.eqv]
  rfl
def clS : Sl → Bool
  | .un => true
  | .sh _ => true
  | _ => false
theorem cl_sh (d : PyData) : clS (.sh d) = true := rfl
theorem clS_ok {ρ : En} (h : ∀ s ∈ ρ, clS s = true) : nopi ρ = true ∧ nolk ρ = true := by
  refine ⟨List.all_eq_true.mpr fun s hs => ?_, List.all_eq_true.mpr fun s hs => ?_⟩
  · have := h s hs
    cases s <;> first | rfl | (cases this)
  · have := h s hs
    cases s <;> first | rfl | (cases this)
theorem dg_turn {p : Pen} {s : Stn} {R : PyData} {g : G2} {n : Nat} {t : Trn} (ht : t.Ok) (hg : GSm n g) (hn : n ≤ 1000) (x7 x8 x9 x10 : Sl) (h10 : clS x10 = true) : ∃ y10, clS y10 = true ∧ b_drawing_g ([.sh p.D, .sh s.D, .sh R, .pi, .sh (.int t.h), .sh (.int t.t), .sh (.bool t.d), x7, x8, x9, x10], toG g) =
    some ([.sh p.D, .sh (s.turn p t.h t.t).D, .sh R, .pi, .sh (.int t.h), .sh (.int t.t), .sh (.bool t.d), .sh (s.turn p t.h t.t).D, .sh (.int (s.g t.h)), .sh (.int ((s.turn p t.h t.t).g t.h)), y10], toG (dgStep p (s, g) t).2) := by
  have c1 := sp_turned (p := p) (s := s) (h := t.h) (t := t.t) ht.1
  have c2 := gSmall_toG hg (by omega)
  have c3 := stn_gx s ht.1
  have c4 := stn_gx (s.turn p t.h t.t) ht.1
  have c5 := stn_gx s (h := 1 - t.h) (by have := ht.1; omega)
  have c6 := gear_ne (s.g t.h) ((s.turn p t.h t.t).g t.h)
  have hx0 := stn_ix0 s
  have hx1 := stn_ix0 (s.turn p t.h t.t)
  show ∃ y10, clS y10 = true ∧ _ = some (_, toG (drawG g t.h (s.g (1 - t.h)) (s.g t.h) ((s.turn p t.h t.t).g t.h) t.d))
  generalize s.g (1 - t.h) = ac at *
  generalize s.g t.h = b at *
  generalize hs' : s.turn p t.h t.t = s' at *
  generalize s'.g t.h = a at *
  have c7 : tkeyD (.tuple [.int t.h, .int ac]) = some (pkK (t.h, ac)) := rfl
  have c8 := addG_toG (t.h, ac) (if a < b then a else b, if a > b then a else b) g
  have c9 : kpD (if a < b then a else b, if a > b then a else b) = .tuple [.int (if a < b then a else b), .int (if a > b then a else b)] := rfl
  rw [c9] at c8
  cases hd : t.d with
  | false =>
    refine ⟨x10, h10, ?_⟩
    have e : drawG g t.h ac b a false = g := if_neg (by simp)
    rw [e]
    simp [b_drawing_g, gSeq, gLift, gIf, gSkip, c1, hx0, hx1, c3, c4]
  | true =>
    by_cases h : b = a
    · refine ⟨x10, h10, ?_⟩
      have e : drawG g t.h ac b a true = g := if_neg (by simp [h])
      rw [e]
      have c6' : hNe (.int b) (.int a) = some (.bool false) := by rw [c6]; simp [h]
      simp [b_drawing_g, gSeq, gLift, gIf, gSkip, c1, hx0, hx1, c3, c4, c6']
    · refine ⟨.sh (.tuple [.int t.h, .int ac]), rfl, ?_⟩
      have e : drawG g t.h ac b a true = add2 g (t.h, ac) (if a < b then a else b, if a > b then a else b) := if_pos ⟨rfl, h⟩
      rw [e, ← c8]
      simp [b_drawing_g, gSeq, gLift, gIf, gSkip, gApp, c1, hx0, hx1, c3, c4, c5, c6, h, c2, c7]
theorem sp_drawing {p : Pen} {s : Stn} {r : List Trn} (hp : p.Ok) (h : s.Ok p) (hr : RowOk r) : F_drawing [p.D, s.D, rowD r] = some (.sh (.tuple ((strokeL (dgRun p s r).2).map st4))) := by
  have key := gLoop_run (gt := gTu 3 (gCo (gVar 4) (gCo (gVar 5) (gCo (gVar 6) gNo)))) (F := b_drawing_g) (toD := Trn.D) (xs := r) (p := ([.sh p.D, .sh s.D, .sh (rowD r), .pi, .un, .un, .un, .un, .un, .un, .un], []))
    (Inv := fun pre c => ∃ x4 x5 x6 x7 x8 x9 x10, c = ([.sh p.D, .sh (dgRun p s pre).1.D, .sh (rowD r), .pi, x4, x5, x6, x7, x8, x9, x10], toG (dgRun p s pre).2) ∧ ∀ y ∈ [x4, x5, x6, x7, x8, x9, x10], clS y = true) ⟨_, _, _, _, _, _, _, rfl, by simp [clS]⟩ (fun pre t post c e ⟨x4, x5, x6, x7, x8, x9, x10, hc, hn1⟩ => by
      subst hc
      have ht : t.Ok := hr.2 t (by rw [e]; simp)
      have hl : pre.length ≤ 1000 := by
        have h1 := hr.1
        rw [e, List.length_append] at h1
        omega
      obtain ⟨y10, hy, e2⟩ := dg_turn (s := (dgRun p s pre).1) (R := rowD r) ht (dgRun_small p s pre) hl x7 x8 x9 x10 (hn1 _ (by simp))
      refine ⟨_, rfl, _, e2, _, _, _, _, _, _, _, by rw [dgRun_snoc]; rfl, ?_⟩
      simp [cl_sh, hy])
  obtain ⟨c, e1, x4, x5, x6, x7, x8, x9, x10, rfl, n1⟩ := key
  have e2 := sp_look_at_row hp h hr
  have e3 := dgRun_small p s r
  have e4 := sp_strokes (g := (dgRun p s r).2) ⟨by have := e3.1; have := hr.1; omega, fun x hx => by have := e3.2 x hx; have := hr.1; omega⟩
  rw [← gD_toG] at e4
  have n2 := clS_ok (ρ := [.sh p.D, .sh (dgRun p s r).1.D, .sh (rowD r), .un, x4, x5, x6, x7, x8, x9, x10]) fun y hy => by
    rcases List.mem_cons.mp hy with z | hy
    · rw [z]; rfl
    rcases List.mem_cons.mp hy with z | hy
    · rw [z]; rfl
    rcases List.mem_cons.mp hy with z | hy
    · rw [z]; rfl
    rcases List.mem_cons.mp hy with z | hy
    · rw [z]; rfl
    exact n1 y hy
  have e5 : gFor (fItems (fVar 2)) (gTu 3 (gCo (gVar 4) (gCo (gVar 5) (gCo (gVar 6) gNo)))) b_drawing_g ([.sh p.D, .sh s.D, .sh (rowD r), .pi, .un, .un, .un, .un, .un, .un, .un], []) = some ([.sh p.D, .sh (dgRun p s r).1.D, .sh (rowD r), .pi, x4, x5, x6, x7, x8, x9, x10], toG (dgRun p s r).2) := e1
  have e6 : fLines 3 (fItems (fVar 2)) (gTu 3 (gCo (gVar 4) (gCo (gVar 5) (gCo (gVar 6) gNo)))) b_drawing_g F_strokes_of [.sh p.D, .sh s.D, .sh (rowD r), .ot [], .un, .un, .un, .un, .un, .un, .un] = some (.rt (.sh (.tuple ((strokeL (dgRun p s r).2).map st4))) [.sh p.D, .sh (dgRun p s r).1.D, .sh (rowD r), .un, x4, x5, x6, x7, x8, x9, x10]) := by
    show (if nopi [.sh p.D, .sh s.D, .sh (rowD r), .ot [], .un, .un, .un, .un, .un, .un, .un] = true then (gFor (fItems (fVar 2)) (gTu 3 (gCo (gVar 4) (gCo (gVar 5) (gCo (gVar 6) gNo)))) b_drawing_g ([.sh p.D, .sh s.D, .sh (rowD r), .pi, .un, .un, .un, .un, .un, .un, .un], [])).bind _ else none) = _
    rw [if_pos (show nopi [.sh p.D, .sh s.D, .sh (rowD r), .ot [], .un, .un, .un, .un, .un, .un, .un] = true from rfl), e5, Option.bind_some]
    show (if nopi [.sh p.D, .sh (dgRun p s r).1.D, .sh (rowD r), .un, x4, x5, x6, x7, x8, x9, x10] = true ∧ nolk [.sh p.D, .sh (dgRun p s r).1.D, .sh (rowD r), .un, x4, x5, x6, x7, x8, x9, x10] = true then (F_strokes_of (gD (toG (dgRun p s r).2))).map _ else none) = _
    rw [if_pos n2, e4]
    rfl
  unfold F_drawing runF b_drawing
  simp [startE, e2, fDNewT, e6, -fFor_eq]

/-! strokes of lines that touch nowhere -/
abbrev S4 := (Int × Int) × Int × Int
def ltP (p q : Int × Int) : Prop := p.1 < q.1 ∨ (p.1 = q.1 ∧ p.2 < q.2)
/-- x stands ahead of y, on another line or off it -/
def Ahd (x y : S4) : Prop := ltP x.1 y.1 ∨ (x.1 = y.1 ∧ x.2.2 < y.2.1)
def Pos4 (l : List S4) : Prop := ∀ x ∈ l, x.2.1 < x.2.2
structure Canon (l : List S4) : Prop where
  pos : Pos4 l
  ahd : l.Pairwise Ahd
/-- an edge lies on a stroke -/
def On (x : S4) (k : Int × Int) (e : Int) : Prop := x.1 = k ∧ x.2.1 ≤ e ∧ e < x.2.2
def Cov (l : List S4) (k : Int × Int) (e : Int) : Prop := ∃ x ∈ l, On x k e
theorem ltP_irr {p : Int × Int} (h : ltP p p) : False := by
  unfold ltP at h
  omega
theorem ltP_asym {p q : Int × Int} (h : ltP p q) (h' : ltP q p) : False := by
  unfold ltP at h h'
  omega
theorem ltP_or {p q : Int × Int} (h : p ≠ q) : ltP p q ∨ ltP q p := by
  unfold ltP
  by_cases e : p.1 = q.1
  · have : p.2 ≠ q.2 := fun z => h (Prod.ext e z)
    omega
  · omega
theorem cov_cons {x : S4} {l : List S4} {k : Int × Int} {e : Int} : Cov (x :: l) k e ↔ On x k e ∨ Cov l k e := by
  unfold Cov
  constructor
  · rintro ⟨y, hy, h⟩
    rcases List.mem_cons.mp hy with z | z
    · rw [z] at h
      exact .inl h
    · exact .inr ⟨y, z, h⟩
  · rintro (h | ⟨y, hy, h⟩)
    · exact ⟨x, List.mem_cons_self, h⟩
    · exact ⟨y, List.mem_cons_of_mem _ hy, h⟩
theorem cov_app {l m : List S4} {k : Int × Int} {e : Int} : Cov (l ++ m) k e ↔ Cov l k e ∨ Cov m k e := by
  unfold Cov
  constructor
  · rintro ⟨y, hy, h⟩
    rcases List.mem_append.mp hy with z | z
    · exact .inl ⟨y, z, h⟩
    · exact .inr ⟨y, z, h⟩
  · rintro (⟨y, hy, h⟩ | ⟨y, hy, h⟩)
    · exact ⟨y, List.mem_append_left _ hy, h⟩
    · exact ⟨y, List.mem_append_right _ hy, h⟩
theorem cov_nil {k : Int × Int} {e : Int} : ¬ Cov [] k e := fun ⟨_, h, _⟩ => by cases h
theorem cov_one {x : S4} {k : Int × Int} {e : Int} : Cov [x] k e ↔ On x k e := by
  rw [cov_cons]
  exact ⟨fun h => h.elim id fun z => (cov_nil z).elim, .inl⟩
/-- what lies on the first stroke lies not on the others, nor ahead of the first -/
theorem ahd_on {x : S4} {l : List S4} (h : ∀ y ∈ l, Ahd x y) {k : Int × Int} {e : Int} (hc : Cov l k e) : ltP x.1 k ∨ (x.1 = k ∧ x.2.2 < e) := by
  obtain ⟨y, hy, h1, h2, h3⟩ := hc
  rcases h y hy with z | ⟨z1, z2⟩
  · rw [h1] at z
    exact .inl z
  · exact .inr ⟨z1.trans h1, by omega⟩
theorem canon_head {x y : S4} {l m : List S4} (hl : Canon (x :: l)) (hm : Canon (y :: m)) (h : ∀ k e, Cov (x :: l) k e ↔ Cov (y :: m) k e) : x = y := by
  have px := hl.pos x List.mem_cons_self
  have py := hm.pos y List.mem_cons_self
  have al := (List.pairwise_cons.mp hl.ahd).1
  have am := (List.pairwise_cons.mp hm.ahd).1
  -- each first edge lies on the other's
  have go : ∀ {x y : S4} {m : List S4}, x.2.1 < x.2.2 → y.2.1 < y.2.2 → (∀ z ∈ m, Ahd y z) → Cov (y :: m) x.1 x.2.1 → ¬ ltP x.1 y.1 ∧ (x.1 = y.1 → y.2.1 ≤ x.2.1) := by
    intro x y m px py am hc
    rcases cov_cons.mp hc with ⟨h1, h2, h3⟩ | hc
    · exact ⟨fun z => by rw [h1] at z; exact ltP_irr z, fun _ => h2⟩
    · rcases ahd_on am hc with z | ⟨z1, z2⟩
      · exact ⟨fun w => ltP_asym z w, fun w => by rw [w] at z; exact (ltP_irr z).elim⟩
      · exact ⟨fun w => by rw [z1] at w; exact ltP_irr w, fun _ => by omega⟩
  have c1 : Cov (x :: l) x.1 x.2.1 := cov_cons.mpr (.inl ⟨rfl, Int.le_refl _, px⟩)
  have c2 : Cov (y :: m) y.1 y.2.1 := cov_cons.mpr (.inl ⟨rfl, Int.le_refl _, py⟩)
  obtain ⟨n1, l1⟩ := go px py am ((h _ _).mp c1)
  obtain ⟨n2, l2⟩ := go py px al ((h _ _).mpr c2)
  have ek : x.1 = y.1 := Classical.byContradiction fun z => (ltP_or z).elim n1 n2
  have el : x.2.1 = y.2.1 := Int.le_antisymm (l2 ek.symm) (l1 ek)
  -- the ends
  have fin : ∀ {x y : S4} {l m : List S4}, x.1 = y.1 → x.2.1 = y.2.1 → x.2.1 < x.2.2 → (∀ z ∈ l, Ahd x z) → (∀ k e, Cov (y :: m) k e → Cov (x :: l) k e) → y.2.2 ≤ x.2.2 := by
    intro x y l m ek el px al hc
    refine Int.not_lt.mp fun z => ?_
    have c3 := hc x.1 x.2.2 (cov_cons.mpr (.inl ⟨ek.symm, by omega, z⟩))
    rcases cov_cons.mp c3 with ⟨_, _, h3⟩ | c3
    · omega
    · rcases ahd_on al c3 with w | ⟨_, w⟩
      · exact ltP_irr w
      · omega
  have f1 := fin ek el px al fun k e => (h k e).mpr
  have f2 := fin ek.symm el.symm py am fun k e => (h k e).mp
  exact Prod.ext ek (Prod.ext el (Int.le_antisymm f2 f1))
theorem canon_eq : ∀ {l m : List S4}, Canon l → Canon m → (∀ k e, Cov l k e ↔ Cov m k e) → l = m
  | [], [], _, _, _ => rfl
  | [], y :: m, _, hm, h => by
    have py := hm.pos y List.mem_cons_self
    exact (cov_nil ((h y.1 y.2.1).mpr (cov_cons.mpr (.inl ⟨rfl, Int.le_refl _, py⟩)))).elim
  | x :: l, [], hl, _, h => by
    have py := hl.pos x List.mem_cons_self
    exact (cov_nil ((h x.1 x.2.1).mp (cov_cons.mpr (.inl ⟨rfl, Int.le_refl _, py⟩)))).elim
  | x :: l, y :: m, hl, hm, h => by
    have e := canon_head hl hm h
    subst e
    obtain ⟨al, hl2⟩ := List.pairwise_cons.mp hl.ahd
    obtain ⟨am, hm2⟩ := List.pairwise_cons.mp hm.ahd
    have no : ∀ {l : List S4} {k : Int × Int} {e : Int}, (∀ z ∈ l, Ahd x z) → Cov l k e → ¬ On x k e := by
      rintro l k e al hc ⟨h1, h2, h3⟩
      rcases ahd_on al hc with w | ⟨_, w⟩
      · rw [h1] at w
        exact ltP_irr w
      · omega
    rw [canon_eq (l := l) (m := m) ⟨fun z hz => hl.pos z (List.mem_cons_of_mem _ hz), hl2⟩ ⟨fun z hz => hm.pos z (List.mem_cons_of_mem _ hz), hm2⟩ fun k e => ?_]
    constructor
    · intro c
      exact (cov_cons.mp ((h k e).mp (cov_cons.mpr (.inr c)))).elim (fun z => (no al c z).elim) id
    · intro c
      exact (cov_cons.mp ((h k e).mpr (cov_cons.mpr (.inr c)))).elim (fun z => (no am c z).elim) id
/-! joined -/
def In2 (y : Int × Int) (e : Int) : Prop := y.1 ≤ e ∧ e < y.2
theorem ppLe_trans (a b c : Int × Int) (h1 : ppLe a b = true) (h2 : ppLe b c = true) : ppLe a c = true := by
  unfold ppLe at *
  simp only [decide_eq_true_eq] at *
  omega
theorem ppLe_total (a b : Int × Int) : (ppLe a b || ppLe b a) = true := by
  unfold ppLe
  simp only [Bool.or_eq_true, decide_eq_true_eq]
  omega
theorem joinF {l : List (Int × Int)} : ∀ {fs : List (Int × Int)}, (∀ x ∈ l, x.1 < x.2) → l.Pairwise (fun a b => a.1 ≤ b.1) → (∀ y ∈ fs, y.1 < y.2) → fs.Pairwise (fun a b => a.2 < b.1) → (∀ y ∈ fs, ∀ x ∈ l, y.1 ≤ x.1) →
    (∀ y ∈ l.foldl joinStep fs, y.1 < y.2) ∧ (l.foldl joinStep fs).Pairwise (fun a b => a.2 < b.1) ∧ ∀ e, (∃ y ∈ l.foldl joinStep fs, In2 y e) ↔ (∃ y ∈ fs, In2 y e) ∨ ∃ y ∈ l, In2 y e := by
  induction l with
  | nil =>
    intro fs _ _ h1 h2 _
    exact ⟨h1, h2, fun e => ⟨.inl, fun h => h.elim id fun ⟨_, h, _⟩ => by cases h⟩⟩
  | cons x l ih =>
    intro fs hl hs h1 h2 h3
    have px := hl x List.mem_cons_self
    obtain ⟨hx, hs2⟩ := List.pairwise_cons.mp hs
    rw [List.foldl_cons]
    -- one step
    have st : (∀ y ∈ joinStep fs x, y.1 < y.2) ∧ (joinStep fs x).Pairwise (fun a b => a.2 < b.1) ∧ (∀ y ∈ joinStep fs x, ∀ z ∈ l, y.1 ≤ z.1) ∧ ∀ e, (∃ y ∈ joinStep fs x, In2 y e) ↔ (∃ y ∈ fs, In2 y e) ∨ In2 x e := by
      rcases List.eq_nil_or_concat fs with rfl | ⟨m, y, rfl⟩
      · have e0 : joinStep [] x = [x] := rfl
        rw [e0]
        refine ⟨fun y hy => by rw [List.mem_singleton.mp hy]; exact px, List.pairwise_singleton _ _, fun y hy z hz => by rw [List.mem_singleton.mp hy]; exact hx z hz, fun e => ?_⟩
        constructor
        · rintro ⟨y, hy, h⟩
          rw [List.mem_singleton.mp hy] at h
          exact .inr h
        · rintro (⟨y, hy, _⟩ | h)
          · cases hy
          · exact ⟨x, List.mem_singleton.mpr rfl, h⟩
      · rw [List.concat_eq_append] at *
        obtain ⟨q1, q2, q3⟩ := List.pairwise_append.mp h2
        have py := h1 y (by simp)
        have yx := h3 y (by simp) x List.mem_cons_self
        have e7 : joinStep (m ++ [y]) x = if x.1 ≤ y.2 then m ++ [(y.1, if x.2 > y.2 then x.2 else y.2)] else m ++ [y] ++ [x] := by
          unfold joinStep
          rw [List.getLast?_concat]
          simp
        rw [e7]
        by_cases c : x.1 ≤ y.2
        · rw [if_pos c]
          refine ⟨fun z hz => ?_, List.pairwise_append.mpr ⟨q1, List.pairwise_singleton _ _, fun a ha b hb => ?_⟩, fun z hz w hw => ?_, fun e => ?_⟩
          · rcases List.mem_append.mp hz with k | k
            · exact h1 z (List.mem_append_left _ k)
            · rw [List.mem_singleton.mp k]
              show y.1 < if x.2 > y.2 then x.2 else y.2
              split <;> omega
          · rw [List.mem_singleton.mp hb]
            exact q3 a ha y (List.mem_singleton.mpr rfl)
          · rcases List.mem_append.mp hz with k | k
            · exact h3 z (List.mem_append_left _ k) w (List.mem_cons_of_mem _ hw)
            · rw [List.mem_singleton.mp k]
              exact h3 y (by simp) w (List.mem_cons_of_mem _ hw)
          · have key : In2 (y.1, if x.2 > y.2 then x.2 else y.2) e ↔ In2 y e ∨ In2 x e := by
              unfold In2
              show (y.1 ≤ e ∧ e < if x.2 > y.2 then x.2 else y.2) ↔ _
              split <;> omega
            constructor
            · rintro ⟨z, hz, h⟩
              rcases List.mem_append.mp hz with k | k
              · exact .inl ⟨z, List.mem_append_left _ k, h⟩
              · rw [List.mem_singleton.mp k] at h
                exact (key.mp h).imp (fun h => ⟨y, by simp, h⟩) id
            · rintro (⟨z, hz, h⟩ | h)
              · rcases List.mem_append.mp hz with k | k
                · exact ⟨z, List.mem_append_left _ k, h⟩
                · rw [List.mem_singleton.mp k] at h
                  exact ⟨_, List.mem_append_right _ (List.mem_singleton.mpr rfl), key.mpr (.inl h)⟩
              · exact ⟨_, List.mem_append_right _ (List.mem_singleton.mpr rfl), key.mpr (.inr h)⟩
        · rw [if_neg c]
          refine ⟨fun z hz => ?_, List.pairwise_append.mpr ⟨h2, List.pairwise_singleton _ _, fun a ha b hb => ?_⟩, fun z hz w hw => ?_, fun e => ?_⟩
          · rcases List.mem_append.mp hz with k | k
            · exact h1 z k
            · rw [List.mem_singleton.mp k]
              exact px
          · rw [List.mem_singleton.mp hb]
            rcases List.mem_append.mp ha with k | k
            · have := q3 a k y (List.mem_singleton.mpr rfl)
              omega
            · rw [List.mem_singleton.mp k]
              omega
          · rcases List.mem_append.mp hz with k | k
            · exact h3 z k w (List.mem_cons_of_mem _ hw)
            · rw [List.mem_singleton.mp k]
              exact hx w hw
          · constructor
            · rintro ⟨z, hz, h⟩
              rcases List.mem_append.mp hz with k | k
              · exact .inl ⟨z, k, h⟩
              · rw [List.mem_singleton.mp k] at h
                exact .inr h
            · rintro (⟨z, hz, h⟩ | h)
              · exact ⟨z, List.mem_append_left _ hz, h⟩
              · exact ⟨x, List.mem_append_right _ (List.mem_singleton.mpr rfl), h⟩
    obtain ⟨s1, s2, s3, s4⟩ := st
    obtain ⟨r1, r2, r3⟩ := ih (fun z hz => hl z (List.mem_cons_of_mem _ hz)) hs2 s1 s2 s3
    refine ⟨r1, r2, fun e => (r3 e).trans ?_⟩
    rw [s4 e]
    constructor
    · rintro ((h | h) | ⟨z, hz, h⟩)
      · exact .inl h
      · exact .inr ⟨x, List.mem_cons_self, h⟩
      · exact .inr ⟨z, List.mem_cons_of_mem _ hz, h⟩
    · rintro (h | ⟨z, hz, h⟩)
      · exact .inl (.inl h)
      · rcases List.mem_cons.mp hz with k | k
        · rw [k] at h
          exact .inl (.inr h)
        · exact .inr ⟨z, k, h⟩
theorem joinL_ok {l : List (Int × Int)} (h : ∀ x ∈ l, x.1 < x.2) : (∀ y ∈ joinL l, y.1 < y.2) ∧ (joinL l).Pairwise (fun a b => a.2 < b.1) ∧ ∀ e, (∃ y ∈ joinL l, In2 y e) ↔ ∃ y ∈ l, In2 y e := by
  obtain ⟨h1, h2, h3⟩ := joinF (l := l.mergeSort ppLe) (fs := []) (fun x hx => h x (List.mem_mergeSort.mp hx)) ((List.pairwise_mergeSort ppLe_trans ppLe_total l).imp fun {a b} h => by
    unfold ppLe at h
    simp only [decide_eq_true_eq] at h
    omega) (fun y hy => by cases hy) List.Pairwise.nil (fun y hy => by cases hy)
  refine ⟨h1, h2, fun e => (h3 e).trans ?_⟩
  constructor
  · rintro (⟨_, h, _⟩ | ⟨y, hy, h⟩)
    · cases h
    · exact ⟨y, List.mem_mergeSort.mp hy, h⟩
  · rintro ⟨y, hy, h⟩
    exact .inr ⟨y, List.mem_mergeSort.mpr hy, h⟩
/-! strokes of lines -/
structure G2Ok (g : G2) : Prop where
  nd : (g.map (·.1)).Nodup
  pos : ∀ x ∈ g, ∀ y ∈ x.2, y.1 < y.2
theorem lk2_mem {g : G2} (nd : (g.map (·.1)).Nodup) {x : (Int × Int) × List (Int × Int)} (hx : x ∈ g) : lk2 g x.1 = x.2 := by
  induction g with
  | nil => cases hx
  | cons z g ih =>
    rw [List.map_cons, List.nodup_cons] at nd
    unfold lk2
    rcases List.mem_cons.mp hx with e | e
    · rw [e, if_pos rfl]
    · rw [if_neg (fun q => nd.1 (by rw [q]; exact List.mem_map.mpr ⟨x, e, rfl⟩)), ih nd.2 e]
theorem lk2_at {g : G2} {k : Int × Int} (hk : k ∈ g.map (·.1)) : ∃ x ∈ g, x.1 = k ∧ lk2 g k = x.2 := by
  induction g with
  | nil => cases hk
  | cons z g ih =>
    unfold lk2
    by_cases e : z.1 = k
    · exact ⟨z, List.mem_cons_self, e, if_pos e⟩
    · rw [if_neg e]
      rw [List.map_cons] at hk
      rcases List.mem_cons.mp hk with q | q
      · exact (e q.symm).elim
      · obtain ⟨x, h1, h2, h3⟩ := ih q
        exact ⟨x, List.mem_cons_of_mem _ h1, h2, h3⟩
/-- an edge lies on a line's strokes -/
def CovG (g : G2) (k : Int × Int) (e : Int) : Prop := ∃ x ∈ g, x.1 = k ∧ ∃ y ∈ x.2, In2 y e
theorem strokeL_ok {g : G2} (hg : G2Ok g) : Canon (strokeL g) ∧ ∀ k e, Cov (strokeL g) k e ↔ CovG g k e := by
  have hpos : ∀ k ∈ g.map (·.1), ∀ y ∈ lk2 g k, y.1 < y.2 := fun k hk y hy => by
    obtain ⟨x, h1, h2, h3⟩ := lk2_at hk
    rw [h3] at hy
    exact hg.pos x h1 y hy
  have lines : ∀ ks : List (Int × Int), (∀ k ∈ ks, k ∈ g.map (·.1)) → ks.Pairwise ltP → Canon (ks.flatMap (lineL g)) ∧ ∀ k e, Cov (ks.flatMap (lineL g)) k e ↔ k ∈ ks ∧ ∃ y ∈ lk2 g k, In2 y e := by
    intro ks
    induction ks with
    | nil =>
      intro _ _
      exact ⟨⟨fun x hx => (by cases hx), List.Pairwise.nil⟩, fun k e => ⟨fun h => (cov_nil h).elim, fun ⟨h, _⟩ => by cases h⟩⟩
    | cons k ks ih =>
      intro h1 h2
      obtain ⟨h3, h4⟩ := List.pairwise_cons.mp h2
      obtain ⟨⟨i1, i2⟩, i3⟩ := ih (fun x hx => h1 x (List.mem_cons_of_mem _ hx)) h4
      obtain ⟨j1, j2, j3⟩ := joinL_ok (hpos k (h1 k List.mem_cons_self))
      have key : ∀ x ∈ ks.flatMap (lineL g), x.1 ∈ ks := fun x hx => by
        obtain ⟨k', h5, h6⟩ := List.mem_flatMap.mp hx
        unfold lineL at h6
        obtain ⟨y, _, rfl⟩ := List.mem_map.mp h6
        exact h5
      rw [List.flatMap_cons]
      refine ⟨⟨fun x hx => ?_, List.pairwise_append.mpr ⟨?_, i2, fun a ha b hb => ?_⟩⟩, fun k' e => ?_⟩
      · rcases List.mem_append.mp hx with z | z
        · unfold lineL at z
          obtain ⟨y, hy, rfl⟩ := List.mem_map.mp z
          exact j1 y hy
        · exact i1 x z
      · unfold lineL
        rw [List.pairwise_map]
        exact j2.imp fun {a b} h => .inr ⟨rfl, h⟩
      · unfold lineL at ha
        obtain ⟨y, hy, rfl⟩ := List.mem_map.mp ha
        exact .inl (h3 b.1 (key b hb))
      · rw [cov_app, i3]
        have line : Cov (lineL g k) k' e ↔ k' = k ∧ ∃ y ∈ lk2 g k, In2 y e := by
          rw [← j3 e]
          unfold lineL
          constructor
          · rintro ⟨x, hx, h5, h6⟩
            obtain ⟨y, hy, rfl⟩ := List.mem_map.mp hx
            exact ⟨h5.symm, y, hy, h6⟩
          · rintro ⟨rfl, y, hy, h6⟩
            exact ⟨(k', y), List.mem_map.mpr ⟨y, hy, rfl⟩, rfl, h6⟩
        rw [line, List.mem_cons]
        constructor
        · rintro (⟨rfl, h⟩ | ⟨h5, h⟩)
          · exact ⟨.inl rfl, h⟩
          · exact ⟨.inr h5, h⟩
        · rintro ⟨h5 | h5, h⟩
          · subst h5
            exact .inl ⟨rfl, h⟩
          · exact .inr ⟨h5, h⟩
  have srt : ((g.map (·.1)).mergeSort ppLe).Pairwise ltP := by
    have h1 := List.pairwise_mergeSort ppLe_trans ppLe_total (g.map (·.1))
    have h2 : ((g.map (·.1)).mergeSort ppLe).Nodup := (List.mergeSort_perm _ _).nodup_iff.mpr hg.nd
    refine (h1.and h2).imp fun {a b} ⟨h, n⟩ => ?_
    unfold ppLe at h
    simp only [decide_eq_true_eq] at h
    unfold ltP
    by_cases e : a.1 = b.1
    · have : a.2 ≠ b.2 := fun z => n (Prod.ext e z)
      omega
    · omega
  obtain ⟨h1, h2⟩ := lines _ (fun k hk => List.mem_mergeSort.mp hk) srt
  refine ⟨h1, fun k e => (h2 k e).trans ?_⟩
  rw [List.mem_mergeSort]
  constructor
  · rintro ⟨h3, y, hy, h⟩
    obtain ⟨x, h4, h5, h6⟩ := lk2_at h3
    rw [h6] at hy
    exact ⟨x, h4, h5, y, hy, h⟩
  · rintro ⟨x, h4, rfl, y, hy, h⟩
    exact ⟨List.mem_map.mpr ⟨x, h4, rfl⟩, y, by rw [lk2_mem hg.nd h4]; exact hy, h⟩
theorem add2_keys (k d : Int × Int) : ∀ g : G2, (add2 g k d).map (·.1) = if k ∈ g.map (·.1) then g.map (·.1) else g.map (·.1) ++ [k]
  | [] => rfl
  | x :: g => by
    unfold add2
    by_cases e : x.1 = k
    · rw [if_pos e, if_pos (by rw [List.map_cons, e]; exact List.mem_cons_self)]
      rfl
    · rw [if_neg e, List.map_cons, add2_keys k d g, List.map_cons]
      by_cases h : k ∈ g.map (·.1)
      · rw [if_pos h, if_pos (List.mem_cons_of_mem _ h)]
      · rw [if_neg h, if_neg (fun z => (List.mem_cons.mp z).elim (fun q => e q.symm) h)]
        rfl
theorem add2_cov (k0 d : Int × Int) (k : Int × Int) (e : Int) : ∀ g : G2, CovG (add2 g k0 d) k e ↔ CovG g k e ∨ (k0 = k ∧ In2 d e)
  | [] => by
    unfold add2 CovG
    constructor
    · rintro ⟨x, hx, h1, y, hy, h⟩
      rw [List.mem_singleton.mp hx] at h1 hy
      rw [List.mem_singleton.mp hy] at h
      exact .inr ⟨h1, h⟩
    · rintro (⟨x, hx, _⟩ | ⟨h1, h⟩)
      · cases hx
      · exact ⟨_, List.mem_singleton.mpr rfl, h1, d, List.mem_singleton.mpr rfl, h⟩
  | x :: g => by
    have ih := add2_cov k0 d k e g
    have cc : ∀ {x : (Int × Int) × List (Int × Int)} {g : G2}, CovG (x :: g) k e ↔ (x.1 = k ∧ ∃ y ∈ x.2, In2 y e) ∨ CovG g k e := by
      intro x g
      constructor
      · rintro ⟨z, hz, h⟩
        rcases List.mem_cons.mp hz with q | q
        · rw [q] at h
          exact .inl h
        · exact .inr ⟨z, q, h⟩
      · rintro (h | ⟨z, hz, h⟩)
        · exact ⟨x, List.mem_cons_self, h⟩
        · exact ⟨z, List.mem_cons_of_mem _ hz, h⟩
    unfold add2
    by_cases q : x.1 = k0
    · rw [if_pos q, cc, cc]
      constructor
      · rintro (⟨h1, y, hy, h⟩ | h)
        · rcases List.mem_append.mp hy with z | z
          · exact .inl (.inl ⟨h1, y, z, h⟩)
          · rw [List.mem_singleton.mp z] at h
            exact .inr ⟨q.symm.trans h1, h⟩
        · exact .inl (.inr h)
      · rintro ((⟨h1, y, hy, h⟩ | h) | ⟨h1, h⟩)
        · exact .inl ⟨h1, y, List.mem_append_left _ hy, h⟩
        · exact .inr h
        · exact .inl ⟨q.trans h1, d, List.mem_append_right _ (List.mem_singleton.mpr rfl), h⟩
    · rw [if_neg q, cc, cc, ih]
      exact or_assoc.symm
theorem G2Ok.nil : G2Ok [] := ⟨List.nodup_nil, fun x hx => by cases hx⟩
theorem add2_pos {d : Int × Int} (k : Int × Int) (hd : d.1 < d.2) : ∀ {g : G2}, (∀ x ∈ g, ∀ y ∈ x.2, y.1 < y.2) → ∀ x ∈ add2 g k d, ∀ y ∈ x.2, y.1 < y.2
  | [], _, x, hx, y, hy => by
    rw [List.mem_singleton.mp hx] at hy
    rw [List.mem_singleton.mp hy]
    exact hd
  | z :: g, h, x, hx, y, hy => by
    unfold add2 at hx
    split at hx
    · rcases List.mem_cons.mp hx with q | q
      · rw [q] at hy
        rcases List.mem_append.mp hy with w | w
        · exact h z List.mem_cons_self y w
        · rw [List.mem_singleton.mp w]
          exact hd
      · exact h x (List.mem_cons_of_mem _ q) y hy
    · rcases List.mem_cons.mp hx with q | q
      · rw [q] at hy
        exact h z List.mem_cons_self y hy
      · exact add2_pos k hd (fun x hx => h x (List.mem_cons_of_mem _ hx)) x q y hy
theorem G2Ok.add {g : G2} (h : G2Ok g) (k : Int × Int) {d : Int × Int} (hd : d.1 < d.2) : G2Ok (add2 g k d) := by
  refine ⟨?_, add2_pos k hd h.pos⟩
  rw [add2_keys]
  split
  · exact h.nd
  · rename_i n
    exact List.nodup_append.mpr ⟨h.nd, by simp, fun a ha b hb e => by
      rw [List.mem_singleton.mp hb] at e
      rw [e] at ha
      exact n ha⟩

/-! strokes of far turns, joined one by one -/
def Tch (f z : S4) : Bool := decide (z.1 = f.1 ∧ z.2.1 ≤ f.2.2 ∧ f.2.1 ≤ z.2.2)
def minL : Int → List Int → Int
  | a, [] => a
  | a, b :: r => minL (if b < a then b else a) r
def maxL : Int → List Int → Int
  | a, [] => a
  | a, b :: r => maxL (if b > a then b else a) r
def loM (f : S4) (near : List S4) : Int := near.foldl (fun a z => if z.2.1 < a then z.2.1 else a) f.2.1
def hiM (f : S4) (near : List S4) : Int := near.foldl (fun a z => if z.2.2 > a then z.2.2 else a) f.2.2
def farStep (found : List S4) (f : S4) : List S4 := found.filter (fun z => !Tch f z) ++ [(f.1, loM f (found.filter (Tch f)), hiM f (found.filter (Tch f)))]
/-- off one another -/
def Off (x y : S4) : Prop := x.1 = y.1 → x.2.2 < y.2.1 ∨ y.2.2 < x.2.1
theorem Off.symm {x y : S4} (h : Off x y) : Off y x := fun e => (h e.symm).symm
theorem loM_spec (f : S4) : ∀ near : List S4, loM f near ≤ f.2.1 ∧ (∀ z ∈ near, loM f near ≤ z.2.1) ∧ (loM f near = f.2.1 ∨ ∃ z ∈ near, loM f near = z.2.1) := by
  have go : ∀ (near : List S4) (a : Int), near.foldl (fun a z => if z.2.1 < a then z.2.1 else a) a ≤ a ∧ (∀ z ∈ near, near.foldl (fun a z => if z.2.1 < a then z.2.1 else a) a ≤ z.2.1) ∧ (near.foldl (fun a z => if z.2.1 < a then z.2.1 else a) a = a ∨ ∃ z ∈ near, near.foldl (fun a z => if z.2.1 < a then z.2.1 else a) a = z.2.1) := by
    intro near
    induction near with
    | nil => exact fun a => ⟨Int.le_refl _, fun z hz => (by cases hz), .inl rfl⟩
    | cons x near ih =>
      intro a
      rw [List.foldl_cons]
      obtain ⟨h1, h2, h3⟩ := ih (if x.2.1 < a then x.2.1 else a)
      generalize near.foldl (fun a z => if z.2.1 < a then z.2.1 else a) (if x.2.1 < a then x.2.1 else a) = w at *
      refine ⟨?_, fun z hz => ?_, ?_⟩
      · split at h1 <;> omega
      · rcases List.mem_cons.mp hz with e | e
        · rw [e]
          split at h1 <;> omega
        · exact h2 z e
      · rcases h3 with h3 | ⟨z, hz, h3⟩
        · split at h3
          · exact .inr ⟨x, List.mem_cons_self, h3⟩
          · exact .inl h3
        · exact .inr ⟨z, List.mem_cons_of_mem _ hz, h3⟩
  exact fun near => go near _
theorem hiM_spec (f : S4) : ∀ near : List S4, f.2.2 ≤ hiM f near ∧ (∀ z ∈ near, z.2.2 ≤ hiM f near) ∧ (hiM f near = f.2.2 ∨ ∃ z ∈ near, hiM f near = z.2.2) := by
  have go : ∀ (near : List S4) (a : Int), a ≤ near.foldl (fun a z => if z.2.2 > a then z.2.2 else a) a ∧ (∀ z ∈ near, z.2.2 ≤ near.foldl (fun a z => if z.2.2 > a then z.2.2 else a) a) ∧ (near.foldl (fun a z => if z.2.2 > a then z.2.2 else a) a = a ∨ ∃ z ∈ near, near.foldl (fun a z => if z.2.2 > a then z.2.2 else a) a = z.2.2) := by
    intro near
    induction near with
    | nil => exact fun a => ⟨Int.le_refl _, fun z hz => (by cases hz), .inl rfl⟩
    | cons x near ih =>
      intro a
      rw [List.foldl_cons]
      obtain ⟨h1, h2, h3⟩ := ih (if x.2.2 > a then x.2.2 else a)
      generalize near.foldl (fun a z => if z.2.2 > a then z.2.2 else a) (if x.2.2 > a then x.2.2 else a) = w at *
      refine ⟨?_, fun z hz => ?_, ?_⟩
      · split at h1 <;> omega
      · rcases List.mem_cons.mp hz with e | e
        · rw [e]
          split at h1 <;> omega
        · exact h2 z e
      · rcases h3 with h3 | ⟨z, hz, h3⟩
        · split at h3
          · exact .inr ⟨x, List.mem_cons_self, h3⟩
          · exact .inl h3
        · exact .inr ⟨z, List.mem_cons_of_mem _ hz, h3⟩
  exact fun near => go near _
structure FarOk (l : List S4) : Prop where
  pos : Pos4 l
  off : l.Pairwise Off
theorem FarOk.nil : FarOk [] := ⟨fun x hx => (by cases hx), List.Pairwise.nil⟩
theorem pw_any {α : Type} {R : α → α → Prop} (hs : ∀ a b, R a b → R b a) : ∀ {l : List α}, l.Pairwise R → ∀ x ∈ l, ∀ y ∈ l, x = y ∨ R x y
  | [], _, x, hx, _, _ => by cases hx
  | z :: l, h, x, hx, y, hy => by
    obtain ⟨h1, h2⟩ := List.pairwise_cons.mp h
    rcases List.mem_cons.mp hx with e | e <;> rcases List.mem_cons.mp hy with f | f
    · exact .inl (e.trans f.symm)
    · rw [e]
      exact .inr (h1 y f)
    · rw [f]
      exact .inr (hs _ _ (h1 x e))
    · exact pw_any hs h2 x e y f
theorem farStep_ok {found : List S4} {f : S4} (h : FarOk found) (hf : f.2.1 < f.2.2) : FarOk (farStep found f) ∧ ∀ k e, Cov (farStep found f) k e ↔ Cov found k e ∨ On f k e := by
  have near : ∀ z ∈ found.filter (Tch f), z ∈ found ∧ z.1 = f.1 ∧ z.2.1 ≤ f.2.2 ∧ f.2.1 ≤ z.2.2 := fun z hz => by
    obtain ⟨h1, h2⟩ := List.mem_filter.mp hz
    exact ⟨h1, of_decide_eq_true h2⟩
  have rest : ∀ z ∈ found.filter (fun z => !Tch f z), z ∈ found ∧ ¬ (z.1 = f.1 ∧ z.2.1 ≤ f.2.2 ∧ f.2.1 ≤ z.2.2) := fun z hz => by
    obtain ⟨h1, h2⟩ := List.mem_filter.mp hz
    refine ⟨h1, fun q => ?_⟩
    have : Tch f z = true := decide_eq_true q
    rw [this] at h2
    cases h2
  obtain ⟨a1, a2, a3⟩ := loM_spec f (found.filter (Tch f))
  obtain ⟨b1, b2, b3⟩ := hiM_spec f (found.filter (Tch f))
  unfold farStep
  generalize hlo : loM f (found.filter (Tch f)) = lo at *
  generalize hhi : hiM f (found.filter (Tch f)) = hi at *
  refine ⟨⟨fun x hx => ?_, List.pairwise_append.mpr ⟨h.off.sublist List.filter_sublist, List.pairwise_singleton _ _, fun w hw m hm => ?_⟩⟩, fun k e => ?_⟩
  · rcases List.mem_append.mp hx with z | z
    · exact h.pos x (List.mem_filter.mp z).1
    · rw [List.mem_singleton.mp z]
      show lo < hi
      omega
  · rw [List.mem_singleton.mp hm]
    intro ek
    replace ek : w.1 = f.1 := ek
    show w.2.2 < lo ∨ hi < w.2.1
    obtain ⟨w1, w2⟩ := rest w hw
    have pw := h.pos w w1
    -- a near one and this one are off one another
    have sep : ∀ z ∈ found.filter (Tch f), w.2.2 < z.2.1 ∨ z.2.2 < w.2.1 := fun z hz => by
      obtain ⟨z1, z2, z3, z4⟩ := near z hz
      rcases pw_any (fun a b h => Off.symm h) h.off w w1 z z1 with q | q
      · exact (w2 (by rw [q]; exact ⟨z2, z3, z4⟩)).elim
      · exact q (ek.trans z2.symm)
    by_cases c : f.2.2 < w.2.1
    · right
      rcases b3 with b3 | ⟨z, hz, b3⟩
      · omega
      · obtain ⟨z1, z2, z3, z4⟩ := near z hz
        have := sep z hz
        omega
    · left
      have c2 : w.2.2 < f.2.1 := by
        refine Int.not_le.mp fun q => w2 ⟨ek, by omega, q⟩
      rcases a3 with a3 | ⟨z, hz, a3⟩
      · omega
      · obtain ⟨z1, z2, z3, z4⟩ := near z hz
        have := sep z hz
        omega
  · rw [cov_app, cov_one]
    constructor
    · rintro (⟨x, hx, ho⟩ | ⟨h1, h2, h3⟩)
      · exact .inl ⟨x, (List.mem_filter.mp hx).1, ho⟩
      · replace h1 : f.1 = k := h1
        replace h2 : lo ≤ e := h2
        replace h3 : e < hi := h3
        by_cases c1 : e < f.2.1
        · rcases a3 with a3 | ⟨z, hz, a3⟩
          · omega
          · obtain ⟨z1, z2, z3, z4⟩ := near z hz
            exact .inl ⟨z, z1, z2.trans h1, by omega, by omega⟩
        · by_cases c2 : f.2.2 ≤ e
          · rcases b3 with b3 | ⟨z, hz, b3⟩
            · omega
            · obtain ⟨z1, z2, z3, z4⟩ := near z hz
              exact .inl ⟨z, z1, z2.trans h1, by omega, by omega⟩
          · exact .inr ⟨h1, by omega, by omega⟩
    · rintro (⟨x, hx, ho⟩ | ⟨h1, h2, h3⟩)
      · by_cases c : Tch f x = true
        · have hx2 : x ∈ found.filter (Tch f) := List.mem_filter.mpr ⟨hx, c⟩
          obtain ⟨z1, z2, z3, z4⟩ := near x hx2
          have := a2 x hx2
          have := b2 x hx2
          obtain ⟨o1, o2, o3⟩ := ho
          exact .inr ⟨z2.symm.trans o1, show lo ≤ e by omega, show e < hi by omega⟩
        · exact .inl ⟨x, List.mem_filter.mpr ⟨hx, by simp [c]⟩, ho⟩
      · exact .inr ⟨h1, show lo ≤ e by omega, show e < hi by omega⟩
theorem farStep_len (found : List S4) (f : S4) : (farStep found f).length ≤ found.length + 1 := by
  unfold farStep
  have := List.length_filter_le (fun z => !Tch f z) found
  rw [List.length_append, List.length_singleton]
  omega
theorem far_ok {l : List S4} (h : Pos4 l) : FarOk (l.foldl farStep []) ∧ ∀ k e, Cov (l.foldl farStep []) k e ↔ Cov l k e := by
  have go : ∀ (l found : List S4), Pos4 l → FarOk found → FarOk (l.foldl farStep found) ∧ ∀ k e, Cov (l.foldl farStep found) k e ↔ Cov found k e ∨ Cov l k e := by
    intro l
    induction l with
    | nil => exact fun found _ h => ⟨h, fun k e => ⟨.inl, fun z => z.elim id fun q => (cov_nil q).elim⟩⟩
    | cons x l ih =>
      intro found hp hf
      obtain ⟨h1, h2⟩ := farStep_ok hf (hp x List.mem_cons_self)
      obtain ⟨h3, h4⟩ := ih _ (fun z hz => hp z (List.mem_cons_of_mem _ hz)) h1
      refine ⟨h3, fun k e => (h4 k e).trans ?_⟩
      rw [h2, cov_cons]
      exact or_assoc
  obtain ⟨h1, h2⟩ := go l [] h FarOk.nil
  exact ⟨h1, fun k e => (h2 k e).trans ⟨fun z => z.elim (fun q => (cov_nil q).elim) id, .inr⟩⟩
/-! the order of tuples of whole numbers -/
theorem le3 (a b c a' b' c' : Int) : leL [a, b, c] [a', b', c'] = decide (a < a' ∨ (a = a' ∧ (b < b' ∨ (b = b' ∧ c ≤ c')))) := by
  unfold leL
  rw [decide_eq_decide]
  simp only [List.cons_le_cons_iff]
  have : c < c' ∨ (c = c' ∧ ([] : List Int) ≤ []) ↔ c ≤ c' := by
    have : ([] : List Int) ≤ [] := List.nil_le _
    simp only [this, and_true]
    omega
  rw [this]
theorem le4 (a b c d a' b' c' d' : Int) : leL [a, b, c, d] [a', b', c', d'] = decide (a < a' ∨ (a = a' ∧ (b < b' ∨ (b = b' ∧ (c < c' ∨ (c = c' ∧ d ≤ d')))))) := by
  unfold leL
  rw [decide_eq_decide]
  simp only [List.cons_le_cons_iff]
  have : d < d' ∨ (d = d' ∧ ([] : List Int) ≤ []) ↔ d ≤ d' := by
    have : ([] : List Int) ≤ [] := List.nil_le _
    simp only [this, and_true]
    omega
  rw [this]
theorem leL_trans (a b c : List Int) (h1 : leL a b = true) (h2 : leL b c = true) : leL a c = true := by
  unfold leL at *
  rw [decide_eq_true_eq] at *
  exact List.le_trans h1 h2
theorem leL_total (a b : List Int) : (leL a b || leL b a) = true := by
  unfold leL
  rw [Bool.or_eq_true, decide_eq_true_eq, decide_eq_true_eq]
  exact List.le_total a b
theorem leL_anti {a b : List Int} (h1 : leL a b = true) (h2 : leL b a = true) : a = b := by
  unfold leL at *
  rw [decide_eq_true_eq] at *
  exact List.le_antisymm h1 h2
def t4 (z : S4) : List Int := [z.1.1, z.1.2, z.2.1, z.2.2]
theorem t4_inj {x y : S4} (h : t4 x = t4 y) : x = y := by
  unfold t4 at h
  injection h with h1 h
  injection h with h2 h
  injection h with h3 h
  injection h with h4 h
  exact Prod.ext (Prod.ext h1 h2) (Prod.ext h3 h4)
theorem canon_srt {l : List S4} (h : Canon l) : (l.map t4).mergeSort leL = l.map t4 := by
  refine List.mergeSort_of_pairwise ?_
  rw [List.pairwise_map]
  refine h.ahd.imp_of_mem fun {a b} ha hb q => ?_
  unfold t4
  rw [le4, decide_eq_true_eq]
  have pa := h.pos a ha
  unfold Ahd ltP at q
  rcases q with q | ⟨q, q2⟩
  · omega
  · rw [q]
    omega
/-- the far strokes sorted are the canonical ones -/
theorem far_srt {l : List S4} (h : FarOk l) : ∃ m : List S4, (l.map t4).mergeSort leL = m.map t4 ∧ Canon m ∧ ∀ k e, Cov m k e ↔ Cov l k e := by
  let le : S4 → S4 → Bool := fun x y => leL (t4 x) (t4 y)
  refine ⟨l.mergeSort le, (List.map_mergeSort (r := le) (s := leL) (f := t4) (l := l) (fun a _ b _ => rfl)).symm, ⟨fun x hx => h.pos x (List.mem_mergeSort.mp hx), ?_⟩, fun k e => ?_⟩
  · have h1 : (l.mergeSort le).Pairwise (fun a b => le a b = true) := List.pairwise_mergeSort (le := le) (fun a b c => leL_trans (t4 a) (t4 b) (t4 c)) (fun a b => leL_total (t4 a) (t4 b)) l
    have h2 : (l.mergeSort le).Pairwise Off := ((List.mergeSort_perm l le).pairwise_iff (fun {x y} => Off.symm)).mpr h.off
    refine (h1.and h2).imp_of_mem fun {a b} ha hb ⟨q, o⟩ => ?_
    have pa := h.pos a (List.mem_mergeSort.mp ha)
    have pb := h.pos b (List.mem_mergeSort.mp hb)
    have q' : leL (t4 a) (t4 b) = true := q
    unfold t4 at q'
    rw [le4, decide_eq_true_eq] at q'
    unfold Ahd
    by_cases e : a.1 = b.1
    · have e1 : a.1.1 = b.1.1 := by rw [e]
      have e2 : a.1.2 = b.1.2 := by rw [e]
      refine .inr ⟨e, ?_⟩
      have := o e
      omega
    · refine .inl ?_
      unfold ltP
      by_cases e1 : a.1.1 = b.1.1
      · have : a.1.2 ≠ b.1.2 := fun z => e (Prod.ext e1 z)
        omega
      · omega
  · constructor
    · rintro ⟨x, hx, ho⟩
      exact ⟨x, List.mem_mergeSort.mp hx, ho⟩
    · rintro ⟨x, hx, ho⟩
      exact ⟨x, List.mem_mergeSort.mpr hx, ho⟩
/-! edges -/
def e3 (k : Int × Int) (e : Int) : List Int := [k.1, k.2, e]
def rngI (a : Int) (n : Nat) : List Int := (List.range n).map fun (i : Nat) => a + (i : Int)
def edgesS (x : S4) : List (List Int) := (rngI x.2.1 (x.2.2 - x.2.1).toNat).map (e3 x.1)
theorem mem_rngI {a e : Int} {n : Nat} : e ∈ rngI a n ↔ a ≤ e ∧ e < a + n := by
  unfold rngI
  rw [List.mem_map]
  constructor
  · rintro ⟨i, hi, rfl⟩
    have := List.mem_range.mp hi
    omega
  · intro h
    exact ⟨(e - a).toNat, List.mem_range.mpr (by omega), by omega⟩
theorem mem_edgesS {x : S4} {z : List Int} : z ∈ edgesS x ↔ ∃ e, z = e3 x.1 e ∧ x.2.1 ≤ e ∧ e < x.2.2 := by
  unfold edgesS
  rw [List.mem_map]
  constructor
  · rintro ⟨e, he, rfl⟩
    have := mem_rngI.mp he
    exact ⟨e, rfl, by omega⟩
  · rintro ⟨e, rfl, h⟩
    exact ⟨e, mem_rngI.mpr (by omega), rfl⟩
theorem e3_inj {k k' : Int × Int} {e e' : Int} (h : e3 k e = e3 k' e') : k = k' ∧ e = e' := by
  unfold e3 at h
  injection h with h1 h
  injection h with h2 h
  injection h with h3 h
  exact ⟨Prod.ext h1 h2, h3⟩
theorem mem_edges {l : List S4} {z : List Int} : z ∈ l.flatMap edgesS ↔ ∃ k e, z = e3 k e ∧ Cov l k e := by
  rw [List.mem_flatMap]
  constructor
  · rintro ⟨x, hx, hz⟩
    obtain ⟨e, rfl, h1, h2⟩ := mem_edgesS.mp hz
    exact ⟨x.1, e, rfl, x, hx, rfl, h1, h2⟩
  · rintro ⟨k, e, rfl, x, hx, rfl, h1, h2⟩
    exact ⟨x, hx, mem_edgesS.mpr ⟨e, rfl, h1, h2⟩⟩
theorem rngI_lt (a : Int) (n : Nat) : (rngI a n).Pairwise (· < ·) := by
  unfold rngI
  rw [List.pairwise_map]
  refine List.pairwise_lt_range.imp fun {a b} h => ?_
  omega
/-- the edges of canonical strokes rise -/
theorem edges_rise {l : List S4} (h : Canon l) : (l.flatMap edgesS).Pairwise (fun a b => leL a b = true ∧ a ≠ b) := by
  rw [List.flatMap, List.pairwise_flatten]
  refine ⟨fun m hm => ?_, ?_⟩
  · obtain ⟨x, hx, rfl⟩ := List.mem_map.mp hm
    unfold edgesS
    rw [List.pairwise_map]
    refine (rngI_lt _ _).imp fun {a b} h => ⟨?_, fun z => ?_⟩
    · unfold e3
      rw [le3, decide_eq_true_eq]
      omega
    · have := (e3_inj z).2
      omega
  · rw [List.pairwise_map]
    refine h.ahd.imp fun {a b} q x hx y hy => ?_
    obtain ⟨e, rfl, h1, h2⟩ := mem_edgesS.mp hx
    obtain ⟨e', rfl, h3, h4⟩ := mem_edgesS.mp hy
    unfold Ahd ltP at q
    refine ⟨?_, fun z => ?_⟩
    · unfold e3
      rw [le3, decide_eq_true_eq]
      rcases q with q | ⟨q, q2⟩
      · omega
      · rw [q]
        omega
    · obtain ⟨z1, z2⟩ := e3_inj z
      rcases q with q | ⟨q, q2⟩
      · rw [z1] at q
        omega
      · omega
theorem addK_nodup {ls : List (List Int)} (h : ls.Nodup) (k : List Int) : (addK ls k).Nodup ∧ ∀ z, z ∈ addK ls k ↔ z ∈ ls ∨ z = k := by
  unfold addK
  by_cases c : k ∈ ls
  · rw [if_pos c]
    exact ⟨h, fun z => ⟨.inl, fun q => q.elim id fun e => by rw [e]; exact c⟩⟩
  · rw [if_neg c]
    refine ⟨List.nodup_append.mpr ⟨h, by simp, fun a ha b hb e => ?_⟩, fun z => by rw [List.mem_append, List.mem_singleton]⟩
    rw [List.mem_singleton.mp hb] at e
    rw [e] at ha
    exact c ha
theorem addKs_nodup (ks : List (List Int)) : ∀ {ls : List (List Int)}, ls.Nodup → (addKs ls ks).Nodup ∧ ∀ z, z ∈ addKs ls ks ↔ z ∈ ls ∨ z ∈ ks := by
  induction ks with
  | nil => exact fun h => ⟨h, fun z => ⟨.inl, fun q => q.elim id fun e => by cases e⟩⟩
  | cons k ks ih =>
    intro ls h
    obtain ⟨h1, h2⟩ := addK_nodup h k
    obtain ⟨h3, h4⟩ := ih h1
    refine ⟨h3, fun z => (h4 z).trans ?_⟩
    rw [h2, List.mem_cons]
    exact or_assoc
theorem addK_len (ls : List (List Int)) (k : List Int) : (addK ls k).length ≤ ls.length + 1 := by
  unfold addK
  split
  · omega
  · simp
theorem addKs_len (ks : List (List Int)) : ∀ ls : List (List Int), (addKs ls ks).length ≤ ls.length + ks.length := by
  induction ks with
  | nil => exact fun ls => Nat.le_refl _
  | cons k ks ih =>
    intro ls
    have h1 := ih (addK ls k)
    have h2 := addK_len ls k
    have : addKs ls (k :: ks) = addKs (addK ls k) ks := rfl
    rw [this, List.length_cons]
    omega
def keysL (l : List S4) : List (List Int) := l.foldl (fun ks x => addKs ks (edgesS x)) []
theorem keysL_ok (l : List S4) : (keysL l).Nodup ∧ ∀ z, z ∈ keysL l ↔ ∃ k e, z = e3 k e ∧ Cov l k e := by
  have go : ∀ (l : List S4) (ks : List (List Int)), ks.Nodup → (l.foldl (fun ks x => addKs ks (edgesS x)) ks).Nodup ∧ ∀ z, z ∈ l.foldl (fun ks x => addKs ks (edgesS x)) ks ↔ z ∈ ks ∨ z ∈ l.flatMap edgesS := by
    intro l
    induction l with
    | nil => exact fun ks h => ⟨h, fun z => ⟨.inl, fun q => q.elim id fun e => by cases e⟩⟩
    | cons x l ih =>
      intro ks h
      obtain ⟨h1, h2⟩ := addKs_nodup (edgesS x) h
      obtain ⟨h3, h4⟩ := ih _ h1
      refine ⟨h3, fun z => (h4 z).trans ?_⟩
      rw [h2, List.flatMap_cons, List.mem_append]
      exact or_assoc
  obtain ⟨h1, h2⟩ := go l [] List.nodup_nil
  refine ⟨h1, fun z => (h2 z).trans ?_⟩
  rw [← mem_edges]
  exact ⟨fun q => q.elim (fun e => by cases e) id, .inr⟩
/-- the edges of canonical strokes are the sorted keys of any strokes that have the same edges -/
theorem edges_keys {l m : List S4} (hl : Canon l) (h : ∀ k e, Cov l k e ↔ Cov m k e) : l.flatMap edgesS = (keysL m).mergeSort leL := by
  obtain ⟨h1, h2⟩ := keysL_ok m
  have r := edges_rise hl
  have n1 : (l.flatMap edgesS).Nodup := r.imp fun h => h.2
  have pm : (l.flatMap edgesS).Perm (keysL m) := by
    rw [List.perm_ext_iff_of_nodup n1 h1]
    intro z
    rw [mem_edges, h2]
    constructor
    · rintro ⟨k, e, q, c⟩
      exact ⟨k, e, q, (h k e).mp c⟩
    · rintro ⟨k, e, q, c⟩
      exact ⟨k, e, q, (h k e).mpr c⟩
  refine List.Perm.eq_of_pairwise (le := fun a b => leL a b = true) (fun a b _ _ => leL_anti) (r.imp fun h => h.1) (List.pairwise_mergeSort leL_trans leL_total _) (pm.trans (List.mergeSort_perm _ _).symm)

/-- a comprehension with a test, its items known one by one -/
theorem lcL_filter {α : Type} {vs : List Nat} {g : FG} {tt : FT} {te : FE} {ρ : En} (toD : α → PyData) (q : α → Bool) (fn : α → PyData) : ∀ xs : List α, (∀ x ∈ xs, ∃ ρ1 ρ2, g (toD x) ρ = some ρ1 ∧ tt ρ1 = some (q x, ρ2) ∧ (q x = true → ∃ ρ3, te ρ2 = some (fn x, ρ3) ∧ wipeE ρ3 vs = ρ) ∧ (q x = false → wipeE ρ2 vs = ρ)) →
    lcL vs g tt te (xs.map toD) ρ = some ((xs.filter q).map fn, ρ)
  | [], _ => rfl
  | x :: xs, h => by
    obtain ⟨ρ1, ρ2, h1, h2, h3, h4⟩ := h x List.mem_cons_self
    have ih := lcL_filter (vs := vs) (g := g) (tt := tt) (te := te) (ρ := ρ) toD q fn xs fun y hy => h y (List.mem_cons_of_mem _ hy)
    rw [List.map_cons, lcL_cons, h1, Option.bind_some, h2, Option.bind_some]
    cases hq : q x with
    | true =>
      obtain ⟨ρ3, h5, h6⟩ := h3 hq
      rw [if_pos rfl]
      show (te ρ2).bind _ = _
      rw [h5, Option.bind_some, h6, ih, List.filter_cons, if_pos hq]
      rfl
    | false =>
      rw [if_neg Bool.false_ne_true]
      show lcL vs g tt te (xs.map toD) (wipeE ρ2 vs) = _
      rw [h4 hq, ih, List.filter_cons, if_neg (by rw [hq]; exact Bool.false_ne_true)]

/-! what is drawn turn by turn -/
def ev (s s' : Stn) (t : Trn) : List S4 := if t.d = true ∧ s.g t.h ≠ s'.g t.h then [((t.h, s.g (1 - t.h)), (if s.g t.h < s'.g t.h then s'.g t.h else s.g t.h, 0))].map (fun _ => ((t.h, s.g (1 - t.h)), (if s'.g t.h < s.g t.h then s'.g t.h else s.g t.h, if s'.g t.h > s.g t.h then s'.g t.h else s.g t.h))) else []
def evs (p : Pen) : Stn → List Trn → List S4
  | _, [] => []
  | s, t :: r => ev s (s.turn p t.h t.t) t ++ evs p (s.turn p t.h t.t) r
theorem ev_yes {s s' : Stn} {t : Trn} (h : t.d = true) (h2 : s.g t.h ≠ s'.g t.h) : ev s s' t = [((t.h, s.g (1 - t.h)), (if s'.g t.h < s.g t.h then s'.g t.h else s.g t.h, if s'.g t.h > s.g t.h then s'.g t.h else s.g t.h))] := if_pos ⟨h, h2⟩
theorem ev_no {s s' : Stn} {t : Trn} (h : ¬ (t.d = true ∧ s.g t.h ≠ s'.g t.h)) : ev s s' t = [] := if_neg h
theorem ev_len (s s' : Stn) (t : Trn) : (ev s s' t).length ≤ 1 := by
  by_cases h : t.d = true ∧ s.g t.h ≠ s'.g t.h
  · rw [ev_yes h.1 h.2]
    exact Nat.le_refl 1
  · rw [ev_no h]
    exact Nat.zero_le _
theorem ev_pos (s s' : Stn) (t : Trn) : Pos4 (ev s s' t) := fun x hx => by
  by_cases h : t.d = true ∧ s.g t.h ≠ s'.g t.h
  · rw [ev_yes h.1 h.2] at hx
    rw [List.mem_singleton.mp hx]
    show (if s'.g t.h < s.g t.h then s'.g t.h else s.g t.h) < if s'.g t.h > s.g t.h then s'.g t.h else s.g t.h
    have := h.2
    split <;> split <;> omega
  · rw [ev_no h] at hx
    cases hx
theorem evs_pos (p : Pen) : ∀ (r : List Trn) (s : Stn), Pos4 (evs p s r)
  | [], _ => fun x hx => by cases hx
  | t :: r, s => fun x hx => by
    rcases List.mem_append.mp hx with h | h
    · exact ev_pos _ _ _ x h
    · exact evs_pos p r _ x h
theorem evs_app (p : Pen) : ∀ (r q : List Trn) (s : Stn), evs p s (r ++ q) = evs p s r ++ evs p (s.run p r) q
  | [], _, _ => rfl
  | t :: r, q, s => by
    show ev _ _ t ++ evs p (s.turn p t.h t.t) (r ++ q) = (ev _ _ t ++ evs p (s.turn p t.h t.t) r) ++ _
    rw [evs_app p r q, List.append_assoc]
    rfl
theorem evs_snoc (p : Pen) (s : Stn) (r : List Trn) (t : Trn) : evs p s (r ++ [t]) = evs p s r ++ ev (s.run p r) ((s.run p r).turn p t.h t.t) t := by
  rw [evs_app]
  show _ ++ (ev _ _ t ++ []) = _
  rw [List.append_nil]
theorem evs_len (p : Pen) : ∀ (r : List Trn) (s : Stn), (evs p s r).length ≤ r.length
  | [], _ => Nat.le_refl _
  | t :: r, s => by
    have h1 := ev_len s (s.turn p t.h t.t) t
    have h2 := evs_len p r (s.turn p t.h t.t)
    show (ev _ _ t ++ evs p _ r).length ≤ _
    rw [List.length_append, List.length_cons]
    omega
theorem evs_up (p : Pen) : ∀ (r : List Trn) (s : Stn), (∀ t ∈ r, t.d = false) → evs p s r = []
  | [], _, _ => rfl
  | t :: r, s, h => by
    show ev _ _ t ++ evs p _ r = []
    rw [evs_up p r _ fun x hx => h x (List.mem_cons_of_mem _ hx), ev_no fun z => by rw [h t List.mem_cons_self] at z; cases z.1]
    rfl
theorem draw_ev (p : Pen) (s : Stn) (g : G2) (t : Trn) : (dgStep p (s, g) t).2 = (ev s (s.turn p t.h t.t) t).foldl (fun g z => add2 g z.1 z.2) g := by
  show drawG g t.h (s.g (1 - t.h)) (s.g t.h) ((s.turn p t.h t.t).g t.h) t.d = _
  unfold drawG
  by_cases h : t.d = true ∧ s.g t.h ≠ (s.turn p t.h t.t).g t.h
  · rw [if_pos h, ev_yes h.1 h.2]
    rfl
  · rw [if_neg h, ev_no h]
    rfl
theorem dgRun_evs (p : Pen) (s : Stn) (r : List Trn) : (dgRun p s r).2 = (evs p s r).foldl (fun g z => add2 g z.1 z.2) [] := by
  have go : ∀ (r : List Trn) (s : Stn) (g : G2), (r.foldl (dgStep p) (s, g)).2 = (evs p s r).foldl (fun g z => add2 g z.1 z.2) g := by
    intro r
    induction r with
    | nil => exact fun s g => rfl
    | cons t r ih =>
      intro s g
      have e : dgStep p (s, g) t = (s.turn p t.h t.t, (dgStep p (s, g) t).2) := rfl
      rw [List.foldl_cons, e, ih, draw_ev]
      show _ = (ev _ _ t ++ evs p _ r).foldl _ g
      rw [List.foldl_append]
  exact go r s []
theorem add2_all : ∀ {l : List S4} {g : G2}, Pos4 l → G2Ok g → G2Ok (l.foldl (fun g z => add2 g z.1 z.2) g) ∧ ∀ k e, CovG (l.foldl (fun g z => add2 g z.1 z.2) g) k e ↔ CovG g k e ∨ Cov l k e
  | [], g, _, hg => ⟨hg, fun k e => ⟨.inl, fun z => z.elim id fun q => (cov_nil q).elim⟩⟩
  | x :: l, g, hl, hg => by
    obtain ⟨h1, h2⟩ := add2_all (l := l) (fun z hz => hl z (List.mem_cons_of_mem _ hz)) (hg.add x.1 (hl x List.mem_cons_self))
    refine ⟨h1, fun k e => (h2 k e).trans ?_⟩
    rw [add2_cov, cov_cons]
    show (_ ∨ (x.1 = k ∧ x.2.1 ≤ e ∧ e < x.2.2)) ∨ _ ↔ _ ∨ (x.1 = k ∧ x.2.1 ≤ e ∧ e < x.2.2) ∨ _
    exact or_assoc
/-- what is drawn -/
def drawn (p : Pen) (s : Stn) (r : List Trn) : List S4 := strokeL (dgRun p s r).2
theorem drawn_ok (p : Pen) (s : Stn) (r : List Trn) : Canon (drawn p s r) ∧ ∀ k e, Cov (drawn p s r) k e ↔ Cov (evs p s r) k e := by
  obtain ⟨h1, h2⟩ := add2_all (evs_pos p r s) G2Ok.nil
  rw [← dgRun_evs] at h1 h2
  obtain ⟨h3, h4⟩ := strokeL_ok h1
  refine ⟨h3, fun k e => (h4 k e).trans ((h2 k e).trans ⟨fun z => z.elim (fun ⟨_, hx, _⟩ => by cases hx) id, .inr⟩)⟩
/-! data -/
theorem kL_t4 (z : S4) : kL (t4 z) = st4 z := rfl
theorem map_t4 (l : List S4) : (l.map t4).map kL = l.map st4 := by
  rw [List.map_map]
  rfl
theorem intsL_map : ∀ {ls : List (List Int)}, (∀ l ∈ ls, l ≠ []) → intsL (ls.map kL) = some ls
  | [], _ => rfl
  | l :: ls, h => by
    have e1 := intsO_map l
    show ((intsO (l.map .int)).bind fun l => if l = [] then none else (intsL (ls.map kL)).map (l :: ·)) = _
    rw [e1, Option.bind_some, if_neg (h l List.mem_cons_self), intsL_map fun z hz => h z (List.mem_cons_of_mem _ hz)]
    rfl
theorem intsL_st4 (l : List S4) : intsL (l.map st4) = some (l.map t4) := by
  rw [← map_t4]
  refine intsL_map fun z hz => ?_
  obtain ⟨x, _, rfl⟩ := List.mem_map.mp hz
  exact fun q => by cases q
theorem st4_inj {x y : S4} (h : st4 x = st4 y) : x = y := by
  unfold st4 at h
  injection h with h
  injection h with h1 h
  injection h with h2 h
  injection h with h3 h
  injection h with h4 h
  injection h1 with h1
  injection h2 with h2
  injection h3 with h3
  injection h4 with h4
  exact Prod.ext (Prod.ext h1 h2) (Prod.ext h3 h4)
theorem eqv_ii (a b : Int) : PyData.eqv (.int a) (.int b) = decide (a = b) := by
  simp only [PyData.eqv]
  rfl
theorem eqv_st4 (x y : S4) : PyData.eqv (st4 x) (st4 y) = decide (x = y) := by
  unfold st4
  simp only [PyData.eqv, PyData.eqvAll, Bool.and_true]
  rw [Bool.eq_iff_iff]
  simp only [Bool.and_eq_true, beq_iff_eq, decide_eq_true_eq]
  constructor
  · rintro ⟨h1, h2, h3, h4⟩
    exact Prod.ext (Prod.ext h1 h2) (Prod.ext h3 h4)
  · rintro rfl
    exact ⟨rfl, rfl, rfl, rfl⟩
theorem hEq_pp (a b c d : Int) : hEq (.tuple [.int a, .int b]) (.tuple [.int c, .int d]) = some (.bool (decide (a = c ∧ b = d))) := by
  unfold hEq
  rw [if_pos ⟨rfl, rfl⟩]
  simp only [PyData.eqv, PyData.eqvAll, Bool.and_true]
  congr 2
  rw [Bool.eq_iff_iff]
  simp only [Bool.and_eq_true, beq_iff_eq, decide_eq_true_eq]
theorem goodD_st4s (l : List S4) (h : l.length ≤ 1000000) : goodD 2 (.list (l.map st4)) = true ∧ goodD 2 (.tuple (l.map st4)) = true := by
  simp only [goodD, Bool.and_eq_true, decide_eq_true_eq, List.all_eq_true, List.length_map]
  refine ⟨⟨h, fun x hx => ?_⟩, ⟨h, fun x hx => ?_⟩⟩ <;> (obtain ⟨y, _, rfl⟩ := List.mem_map.mp hx; simp [st4, goodD])
theorem notin_st4 (x : S4) (l : List S4) (h : l.length ≤ 1000000) : hNotIn (st4 x) (.list (l.map st4)) = some (.bool (!decide (x ∈ l))) := by
  show (if SeqAt.shaped (st4 x) = true ∧ SeqAt.shaped (.list (l.map st4)) = true then some (PyData.bool (!(l.map st4).any fun z => PyData.eqv z (st4 x))) else none) = _
  rw [if_pos ⟨rfl, goodD_shaped 2 (goodD_st4s l h).1⟩]
  congr 3
  rw [Bool.eq_iff_iff, List.any_eq_true, decide_eq_true_eq]
  constructor
  · rintro ⟨d, hd, h1⟩
    obtain ⟨y, hy, rfl⟩ := List.mem_map.mp hd
    rw [eqv_st4, decide_eq_true_eq] at h1
    rw [← h1]
    exact hy
  · intro hx
    exact ⟨st4 x, List.mem_map.mpr ⟨x, hx, rfl⟩, by rw [eqv_st4]; exact decide_eq_true rfl⟩
@[simp] theorem at3 (a b c d : PyData) : atI [a, b, c, d] 3 = some d := rfl
theorem cut4 (a b c d : Int) : cutD [PyData.int a, .int b, .int c, .int d] none (some 2) = [PyData.int a, .int b] := (cut_map PyData.int [a, b, c, d] 2 (by decide)).1
theorem hMin_of {l : List Int} {m : Int} (hm : m ∈ l) (hle : ∀ x ∈ l, m ≤ x) : hMin [.list (l.map PyData.int)] = some (.sh (.int m)) := by
  cases l with
  | nil => cases hm
  | cons a r =>
    show (match intsO ((a :: r).map PyData.int) with
      | some (a :: r) => some (Sl.sh (.int (minI a r)))
      | _ => none) = _
    rw [intsO_map]
    obtain ⟨h1, h2⟩ := minI_spec r a
    show some (Sl.sh (.int (minI a r))) = _
    rw [Int.le_antisymm (h2 m hm) (hle _ h1)]
theorem hMax_of {l : List Int} {m : Int} (hm : m ∈ l) (hle : ∀ x ∈ l, x ≤ m) : hMax [.list (l.map PyData.int)] = some (.sh (.int m)) := by
  cases l with
  | nil => cases hm
  | cons a r =>
    show (match intsO ((a :: r).map PyData.int) with
      | some (a :: r) => some (Sl.sh (.int (maxI a r)))
      | _ => none) = _
    rw [intsO_map]
    obtain ⟨h1, h2⟩ := maxI_spec r a
    show some (Sl.sh (.int (maxI a r))) = _
    rw [Int.le_antisymm (hle _ h1) (h2 m hm)]
theorem min_near (f : S4) (near : List S4) : hMin [.list ((near ++ [f]).map fun z => PyData.int z.2.1)] = some (.sh (.int (loM f near))) := by
  obtain ⟨h1, h2, h3⟩ := loM_spec f near
  have := hMin_of (l := (near ++ [f]).map fun z => z.2.1) (m := loM f near) (by
    rw [List.mem_map]
    rcases h3 with h3 | ⟨z, hz, h3⟩
    · exact ⟨f, by simp, h3.symm⟩
    · exact ⟨z, List.mem_append_left _ hz, h3.symm⟩) (fun x hx => by
    obtain ⟨z, hz, rfl⟩ := List.mem_map.mp hx
    rcases List.mem_append.mp hz with q | q
    · exact h2 z q
    · rw [List.mem_singleton.mp q]
      exact h1)
  rw [List.map_map] at this
  exact this
theorem max_near (f : S4) (near : List S4) : hMax [.list ((near ++ [f]).map fun z => PyData.int z.2.2)] = some (.sh (.int (hiM f near))) := by
  obtain ⟨h1, h2, h3⟩ := hiM_spec f near
  have := hMax_of (l := (near ++ [f]).map fun z => z.2.2) (m := hiM f near) (by
    rw [List.mem_map]
    rcases h3 with h3 | ⟨z, hz, h3⟩
    · exact ⟨f, by simp, h3.symm⟩
    · exact ⟨z, List.mem_append_left _ hz, h3.symm⟩) (fun x hx => by
    obtain ⟨z, hz, rfl⟩ := List.mem_map.mp hx
    rcases List.mem_append.mp hz with q | q
    · exact h2 z q
    · rw [List.mem_singleton.mp q]
      exact h1)
  rw [List.map_map] at this
  exact this
/-- a comprehension whose first turn freezes a slot -/
theorem lcL_filter2 {α : Type} {vs : List Nat} {g : FG} {tt : FT} {te : FE} {ρ ρ0 : En} (toD : α → PyData) (q : α → Bool) (fn : α → PyData) (xs : List α) (h0 : ∀ x ∈ xs, ∃ ρ1 ρ2, g (toD x) ρ0 = some ρ1 ∧ tt ρ1 = some (q x, ρ2) ∧ (q x = true → ∃ ρ3, te ρ2 = some (fn x, ρ3) ∧ wipeE ρ3 vs = ρ) ∧ (q x = false → wipeE ρ2 vs = ρ))
    (h : ∀ x ∈ xs, ∃ ρ1 ρ2, g (toD x) ρ = some ρ1 ∧ tt ρ1 = some (q x, ρ2) ∧ (q x = true → ∃ ρ3, te ρ2 = some (fn x, ρ3) ∧ wipeE ρ3 vs = ρ) ∧ (q x = false → wipeE ρ2 vs = ρ)) :
    lcL vs g tt te (xs.map toD) ρ0 = some ((xs.filter q).map fn, if xs = [] then ρ0 else ρ) := by
  cases xs with
  | nil => rfl
  | cons x xs =>
    obtain ⟨ρ1, ρ2, h1, h2, h3, h4⟩ := h0 x List.mem_cons_self
    have ih := lcL_filter (vs := vs) (g := g) (tt := tt) (te := te) (ρ := ρ) toD q fn xs fun y hy => h y (List.mem_cons_of_mem _ hy)
    rw [if_neg (fun z => by cases z), List.map_cons, lcL_cons, h1, Option.bind_some, h2, Option.bind_some]
    cases hq : q x with
    | true =>
      obtain ⟨ρ3, h5, h6⟩ := h3 hq
      rw [if_pos rfl]
      show (te ρ2).bind _ = _
      rw [h5, Option.bind_some, h6, ih, List.filter_cons, if_pos hq]
      rfl
    | false =>
      rw [if_neg Bool.false_ne_true]
      show lcL vs g tt te (xs.map toD) (wipeE ρ2 vs) = _
      rw [h4 hq, ih, List.filter_cons, if_neg (by rw [hq]; exact Bool.false_ne_true)]
/-! strokes of far turns -/
theorem near_lc (f : S4) (found : List S4) (a0 a1 a2 a3 a4 a5 a6 a7 a8 a9 a11 a12 a13 : Sl) :
    lcL [14] (gVar 14) (fAndT (fB (fBin hEq (fFz (fCut (fVar 14) (fNo) (fPt (fC (.int 2))))) (fFz (fCut (fVar 10) (fNo) (fPt (fC (.int 2))))))) (fAndT (fB (fBin hLe (fBin hIx (fVar 14) (fC (.int 2))) (fBin hIx (fVar 10) (fC (.int 3))))) (fB (fBin hLe (fBin hIx (fVar 10) (fC (.int 2))) (fBin hIx (fVar 14) (fC (.int 3))))))) (fVar 14) (found.map st4) [a0, a1, a2, a3, a4, a5, a6, a7, a8, a9, .sh (st4 f), a11, a12, a13, .un] =
      some ((found.filter (Tch f)).map st4, [a0, a1, a2, a3, a4, a5, a6, a7, a8, a9, .sh (st4 f), a11, a12, a13, .un]) :=
  lcL_filter st4 (Tch f) st4 found fun z hz => by
    refine ⟨[a0, a1, a2, a3, a4, a5, a6, a7, a8, a9, .sh (st4 f), a11, a12, a13, .sh (st4 z)], [a0, a1, a2, a3, a4, a5, a6, a7, a8, a9, .sh (st4 f), a11, a12, a13, .sh (st4 z)], rfl, ?_, fun _ => ⟨[a0, a1, a2, a3, a4, a5, a6, a7, a8, a9, .sh (st4 f), a11, a12, a13, .sh (st4 z)], rfl, rfl⟩, fun _ => rfl⟩
    have ek : Tch f z = (decide (z.1.1 = f.1.1 ∧ z.1.2 = f.1.2) && (decide (z.2.1 ≤ f.2.2) && decide (f.2.1 ≤ z.2.2))) := by
      unfold Tch
      rw [Bool.eq_iff_iff, Bool.and_eq_true, Bool.and_eq_true, decide_eq_true_eq, decide_eq_true_eq, decide_eq_true_eq, decide_eq_true_eq]
      constructor
      · rintro ⟨h1, h2, h3⟩
        exact ⟨⟨by rw [h1], by rw [h1]⟩, h2, h3⟩
      · rintro ⟨⟨h0, h1⟩, h2, h3⟩
        exact ⟨Prod.ext h0 h1, h2, h3⟩
    rw [ek]
    have c1 := hEq_pp z.1.1 z.1.2 f.1.1 f.1.2
    generalize hA : decide (z.1.1 = f.1.1 ∧ z.1.2 = f.1.2) = A at c1
    cases A with
    | false => simp [st4, cut4, c1]
    | true =>
      by_cases h2 : z.2.1 ≤ f.2.2
      · by_cases h3 : f.2.1 ≤ z.2.2 <;> simp [st4, cut4, c1, h2, h3]
      · simp [st4, cut4, c1, h2]
theorem rest_lc (f : S4) (found : List S4) (hl : found.length ≤ 1000000) (a0 a1 a2 a3 a4 a5 a6 a7 a8 a9 a10 a12 a13 : Sl) :
    lcL [14] (gVar 14) (fB (fBin hNotIn (fVar 14) (fVar 11))) (fVar 14) (found.map st4) [a0, a1, a2, a3, a4, a5, a6, a7, a8, a9, a10, .ow ((found.filter (Tch f)).map st4), a12, a13, .un] =
      some ((found.filter fun z => !Tch f z).map st4, if found = [] then [a0, a1, a2, a3, a4, a5, a6, a7, a8, a9, a10, .ow ((found.filter (Tch f)).map st4), a12, a13, .un] else [a0, a1, a2, a3, a4, a5, a6, a7, a8, a9, a10, .sh (.list ((found.filter (Tch f)).map st4)), a12, a13, .un]) := by
  have nin : ∀ z ∈ found, hNotIn (st4 z) (.list ((found.filter (Tch f)).map st4)) = some (.bool (!Tch f z)) := fun z hz => by
    rw [notin_st4 z _ (Nat.le_trans (List.length_filter_le _ _) hl)]
    congr 3
    rw [Bool.eq_iff_iff, decide_eq_true_eq, List.mem_filter]
    exact ⟨fun h => h.2, fun h => ⟨hz, h⟩⟩
  refine lcL_filter2 st4 (fun z => !Tch f z) st4 found (fun z hz => ?_) fun z hz => ?_
  · have n := nin z hz
    generalize st4 z = d at n
    generalize (found.filter (Tch f)).map st4 = N at *
    refine ⟨[a0, a1, a2, a3, a4, a5, a6, a7, a8, a9, a10, .ow N, a12, a13, .sh d], [a0, a1, a2, a3, a4, a5, a6, a7, a8, a9, a10, .sh (.list N), a12, a13, .sh d], rfl, ?_, fun _ => ⟨[a0, a1, a2, a3, a4, a5, a6, a7, a8, a9, a10, .sh (.list N), a12, a13, .sh d], rfl, rfl⟩, fun _ => rfl⟩
    simp [n]
  · have n := nin z hz
    generalize st4 z = d at n
    generalize (found.filter (Tch f)).map st4 = N at *
    refine ⟨[a0, a1, a2, a3, a4, a5, a6, a7, a8, a9, a10, .sh (.list N), a12, a13, .sh d], [a0, a1, a2, a3, a4, a5, a6, a7, a8, a9, a10, .sh (.list N), a12, a13, .sh d], rfl, ?_, fun _ => ⟨[a0, a1, a2, a3, a4, a5, a6, a7, a8, a9, a10, .sh (.list N), a12, a13, .sh d], rfl, rfl⟩, fun _ => rfl⟩
    simp [n]
theorem low_lc (l : List S4) (a0 a1 a2 a3 a4 a5 a6 a7 a8 a9 a10 a11 a12 a13 : Sl) : lcL [14] (gVar 14) fYes (fBin hIx (fVar 14) (fC (.int 2))) (l.map st4) [a0, a1, a2, a3, a4, a5, a6, a7, a8, a9, a10, a11, a12, a13, .un] = some (l.map fun z => PyData.int z.2.1, [a0, a1, a2, a3, a4, a5, a6, a7, a8, a9, a10, a11, a12, a13, .un]) :=
  lcL_map st4 (fun z => PyData.int z.2.1) l fun z hz => ⟨[a0, a1, a2, a3, a4, a5, a6, a7, a8, a9, a10, a11, a12, a13, .sh (st4 z)], [a0, a1, a2, a3, a4, a5, a6, a7, a8, a9, a10, a11, a12, a13, .sh (st4 z)], rfl, by simp [st4], rfl⟩
theorem high_lc (l : List S4) (a0 a1 a2 a3 a4 a5 a6 a7 a8 a9 a10 a11 a12 a13 : Sl) : lcL [14] (gVar 14) fYes (fBin hIx (fVar 14) (fC (.int 3))) (l.map st4) [a0, a1, a2, a3, a4, a5, a6, a7, a8, a9, a10, a11, a12, a13, .un] = some (l.map fun z => PyData.int z.2.2, [a0, a1, a2, a3, a4, a5, a6, a7, a8, a9, a10, a11, a12, a13, .un]) :=
  lcL_map st4 (fun z => PyData.int z.2.2) l fun z hz => ⟨[a0, a1, a2, a3, a4, a5, a6, a7, a8, a9, a10, a11, a12, a13, .sh (st4 z)], [a0, a1, a2, a3, a4, a5, a6, a7, a8, a9, a10, a11, a12, a13, .sh (st4 z)], rfl, by simp [st4, at3], rfl⟩
theorem far_turn {p : Pen} {s : Stn} {R : PyData} {found : List S4} {t : Trn} (ht : t.Ok) (hs : s.In p) (hl : found.length ≤ 1000) (x7 x8 x9 x10 x11 x12 x13 : Sl) :
    ∃ y10 y11 y12 y13, b__law_far_1 [.sh p.D, .sh s.D, .sh R, .ow (found.map st4), .sh (.int t.h), .sh (.int t.t), .sh (.bool t.d), x7, x8, x9, x10, x11, x12, x13, .un] =
      some (.nx [.sh p.D, .sh (s.turn p t.h t.t).D, .sh R, .ow (((ev s (s.turn p t.h t.t) t).foldl farStep found).map st4), .sh (.int t.h), .sh (.int t.t), .sh (.bool t.d), .sh (s.turn p t.h t.t).D, .sh (.int (s.g t.h)), .sh (.int ((s.turn p t.h t.t).g t.h)), y10, y11, y12, y13, .un]) := by
  have c1 := sp_law_turned (p := p) (s := s) (h := t.h) (t := t.t) ht.1 hs
  have c3 := stn_gx s ht.1
  have c4 := stn_gx (s.turn p t.h t.t) ht.1
  have c5 := stn_gx s (h := 1 - t.h) (by have := ht.1; omega)
  have c6 := gear_ne (s.g t.h) ((s.turn p t.h t.t).g t.h)
  have hx0 := stn_ix0 s
  have hx1 := stn_ix0 (s.turn p t.h t.t)
  by_cases h : t.d = true ∧ s.g t.h ≠ (s.turn p t.h t.t).g t.h
  · rw [ev_yes h.1 h.2]
    generalize s.turn p t.h t.t = s' at *
    obtain ⟨hd, hne⟩ := h
    generalize s.g (1 - t.h) = ac at *
    generalize s.g t.h = b at *
    generalize s'.g t.h = a at *
    generalize hf : (((t.h, ac), (if a < b then a else b, if a > b then a else b)) : S4) = f
    have ef : st4 f = .tuple [.int t.h, .int ac, .int (if a < b then a else b), .int (if a > b then a else b)] := by rw [← hf]; rfl
    have ef2 : cutD [PyData.int t.h, .int ac, .int (if a < b then a else b), .int (if a > b then a else b)] none (some 2) = [PyData.int f.1.1, .int f.1.2] := by
      rw [cut4, ← hf]
    have hfl := List.length_filter_le (Tch f) found
    have hfr := List.length_filter_le (fun z => !Tch f z) found
    have q1 := near_lc f found (.sh p.D) (.sh s.D) (.sh R) (.sh (.list (found.map st4))) (.sh (.int t.h)) (.sh (.int t.t)) (.sh (.bool t.d)) (.sh s'.D) (.sh (.int b)) (.sh (.int a)) x11 x12 x13
    have q2 := rest_lc f found (by omega) (.sh p.D) (.sh s.D) (.sh R) (.sh (.list (found.map st4))) (.sh (.int t.h)) (.sh (.int t.t)) (.sh (.bool t.d)) (.sh s'.D) (.sh (.int b)) (.sh (.int a)) (.sh (st4 f)) x12 x13
    have m1 := min_near f (found.filter (Tch f))
    have m2 := max_near f (found.filter (Tch f))
    have l3 := fun a0 a1 a2 a3 a4 a5 a6 a7 a8 a9 a10 a11 a12 a13 => low_lc (found.filter (Tch f) ++ [f]) a0 a1 a2 a3 a4 a5 a6 a7 a8 a9 a10 a11 a12 a13
    have l4 := fun a0 a1 a2 a3 a4 a5 a6 a7 a8 a9 a10 a11 a12 a13 => high_lc (found.filter (Tch f) ++ [f]) a0 a1 a2 a3 a4 a5 a6 a7 a8 a9 a10 a11 a12 a13
    have ecat : (found.filter (Tch f) ++ [f]).map st4 = (found.filter (Tch f)).map st4 ++ [st4 f] := by rw [List.map_append]; rfl
    rw [ecat] at l3 l4
    have n1 : found.length ≤ 16000000 := by omega
    have n2 : ((found.filter (Tch f)).map st4).length + 1 ≤ 16777216 := by rw [List.length_map]; omega
    have n3 : ((found.filter (Tch f)).map st4).length + 1 ≤ 16000000 := by rw [List.length_map]; omega
    have n4 : ((found.filter fun z => !Tch f z).map st4).length < 16777216 := by rw [List.length_map]; omega
    have e9 : (farStep found f).map st4 = (found.filter fun z => !Tch f z).map st4 ++ [.tuple [.int f.1.1, .int f.1.2, .int (loM f (found.filter (Tch f))), .int (hiM f (found.filter (Tch f)))]] := by
      unfold farStep
      rw [List.map_append]
      rfl
    show ∃ y10 y11 y12 y13, _ = some (Out.nx [_, _, _, .ow ((farStep found f).map st4), _, _, _, _, _, _, y10, y11, y12, y13, _])
    rw [e9]
    generalize loM f (found.filter (Tch f)) = lo at *
    generalize hiM f (found.filter (Tch f)) = hi at *
    refine ⟨.sh (st4 f), .sh (.list ((found.filter (Tch f)).map st4)), .sh (.list ((found.filter (Tch f) ++ [f]).map fun z => PyData.int z.2.1)), .sh (.list ((found.filter (Tch f) ++ [f]).map fun z => PyData.int z.2.2)), ?_⟩
    generalize (found.filter (Tch f) ++ [f]).map (fun z => PyData.int z.2.1) = LO at *
    generalize (found.filter (Tch f) ++ [f]).map (fun z => PyData.int z.2.2) = HI at *
    generalize (found.filter (Tch f)).map st4 = N at *
    generalize (found.filter fun z => !Tch f z).map st4 = M at *
    unfold b__law_far_1
    rw [fSeq_nx (ρ1 := [.sh p.D, .sh s.D, .sh R, .ow (found.map st4), .sh (.int t.h), .sh (.int t.t), .sh (.bool t.d), .sh s'.D, x8, x9, x10, x11, x12, x13, .un]) (by simp [c1])]
    rw [fSeq_nx (ρ1 := [.sh p.D, .sh s.D, .sh R, .ow (found.map st4), .sh (.int t.h), .sh (.int t.t), .sh (.bool t.d), .sh s'.D, .sh (.int b), .sh (.int a), x10, x11, x12, x13, .un]) (by simp [hx0, hx1, c3, c4])]
    rw [fSeq_nx (ρ1 := [.sh p.D, .sh s.D, .sh R, .ow (M ++ [.tuple [.int f.1.1, .int f.1.2, .int lo, .int hi]]), .sh (.int t.h), .sh (.int t.t), .sh (.bool t.d), .sh s'.D, .sh (.int b), .sh (.int a), .sh (st4 f), .sh (.list N), .sh (.list LO), .sh (.list HI), .un]) ?_]
    · simp
    · rw [hd]
      rw [hd] at q1 q2
      have c6' : hNe (.int b) (.int a) = some (.bool true) := by rw [c6]; simp [hne]
      rw [fIf_eq]
      have ct : (fAndT (fB (fVar 6)) (fB (fBin hNe (fVar 8) (fVar 9)))) [.sh p.D, .sh s.D, .sh R, .ow (found.map st4), .sh (.int t.h), .sh (.int t.t), .sh (.bool true), .sh s'.D, .sh (.int b), .sh (.int a), x10, x11, x12, x13, .un] = some (true, [.sh p.D, .sh s.D, .sh R, .ow (found.map st4), .sh (.int t.h), .sh (.int t.t), .sh (.bool true), .sh s'.D, .sh (.int b), .sh (.int a), x10, x11, x12, x13, .un]) := by simp [c6']
      rw [ct, Option.bind_some, if_pos rfl]
      rw [fSeq_nx (ρ1 := [.sh p.D, .sh s.D, .sh R, .ow (found.map st4), .sh (.int t.h), .sh (.int t.t), .sh (.bool true), .sh s'.D, .sh (.int b), .sh (.int a), .sh (st4 f), x11, x12, x13, .un]) (by simp [hx0, c5, ef, hMin, hMax])]
      rw [fSeq_nx (ρ1 := [.sh p.D, .sh s.D, .sh R, .sh (.list (found.map st4)), .sh (.int t.h), .sh (.int t.t), .sh (.bool true), .sh s'.D, .sh (.int b), .sh (.int a), .sh (st4 f), .ow N, x12, x13, .un]) (by simp [q1, n1])]
      have q2' : (fSet 3 (fLc [14] (fItems (fVar 3)) (gVar 14) (fB (fBin hNotIn (fVar 14) (fVar 11))) (fVar 14))) [.sh p.D, .sh s.D, .sh R, .sh (.list (found.map st4)), .sh (.int t.h), .sh (.int t.t), .sh (.bool true), .sh s'.D, .sh (.int b), .sh (.int a), .sh (st4 f), .ow N, x12, x13, .un] = some (.nx [.sh p.D, .sh s.D, .sh R, .ow M, .sh (.int t.h), .sh (.int t.t), .sh (.bool true), .sh s'.D, .sh (.int b), .sh (.int a), .sh (st4 f), if found = [] then .ow N else .sh (.list N), x12, x13, .un]) := by
        simp only [fSet_eq, fLc_eq, fItems_eq, fVar_eq, List.getElem?_cons_succ, List.getElem?_cons_zero, Option.bind_some, itemsD_l, Option.map_some, wipeE_cons, wipeE_nil, List.set_cons_succ, List.set_cons_zero, List.length_map, n1, if_true]
        rw [q2]
        by_cases hz : found = []
        · simp [hz]
        · simp [hz]
      rw [fSeq_nx q2']
      rw [fSeq_nx (ρ1 := [.sh p.D, .sh s.D, .sh R, .ow M, .sh (.int t.h), .sh (.int t.t), .sh (.bool true), .sh s'.D, .sh (.int b), .sh (.int a), .sh (st4 f), .sh (.list N), .ow LO, .ow HI, .un]) (by
        by_cases hz : found = []
        · simp [hz, n2, n3, l3, l4]
        · simp [hz, n2, n3, l3, l4])]
      simp [ef, ef2, m1, m2, n4]
  · rw [ev_no h]
    generalize s.turn p t.h t.t = s' at *
    show ∃ y10 y11 y12 y13, _ = some (Out.nx [_, _, _, .ow (found.map st4), _, _, _, _, _, _, y10, y11, y12, y13, _])
    refine ⟨x10, x11, x12, x13, ?_⟩
    cases hd : t.d with
    | false => simp [b__law_far_1, c1, hx0, hx1, c3, c4]
    | true =>
      have hne : s.g t.h = s'.g t.h := Classical.byContradiction fun z => h ⟨hd, z⟩
      have c6' : hNe (.int (s.g t.h)) (.int (s'.g t.h)) = some (.bool false) := by rw [c6]; simp [hne]
      simp [b__law_far_1, c1, hx0, hx1, c3, c4, c6']
theorem sp_law_far {p : Pen} {s : Stn} {r : List Trn} (hs : s.In p) (hr : RowOk r) : F__law_far [p.D, s.D, rowD r] = some (.sh (.tuple ((drawn p s r).map st4))) := by
  have flen : ∀ (l found : List S4), (l.foldl farStep found).length ≤ found.length + l.length := by
    intro l
    induction l with
    | nil => exact fun found => Nat.le_refl _
    | cons x l ih =>
      intro found
      have h1 := ih (farStep found x)
      have h2 := farStep_len found x
      rw [List.foldl_cons, List.length_cons]
      omega
  have key := forL_run (g := gTu 3 (gCo (gVar 4) (gCo (gVar 5) (gCo (gVar 6) gNo)))) (F := b__law_far_1) (toD := Trn.D) (xs := r) (ρ := [.sh p.D, .sh s.D, .sh (rowD r), .ow [], .un, .un, .un, .un, .un, .un, .un, .un, .un, .un, .un])
    (Inv := fun pre ρ => ∃ x4 x5 x6 x7 x8 x9 x10 x11 x12 x13, ρ = [.sh p.D, .sh (s.run p pre).D, .sh (rowD r), .ow (((evs p s pre).foldl farStep []).map st4), x4, x5, x6, x7, x8, x9, x10, x11, x12, x13, .un]) ⟨_, _, _, _, _, _, _, _, _, _, rfl⟩
    (fun pre t post ρ1 e ⟨x4, x5, x6, x7, x8, x9, x10, x11, x12, x13, hρ⟩ => by
      subst hρ
      have ht : t.Ok := hr.2 t (by rw [e]; simp)
      have hl : pre.length ≤ 60 := by
        have h1 := hr.1
        rw [e, List.length_append] at h1
        omega
      have h2 := flen (evs p s pre) []
      have h3 := evs_len p pre s
      obtain ⟨y10, y11, y12, y13, e2⟩ := far_turn (R := rowD r) ht (hs.run pre) (found := (evs p s pre).foldl farStep []) (by simp only [List.length_nil] at h2; omega) x7 x8 x9 x10 x11 x12 x13
      refine ⟨_, rfl, _, e2, .sh (.int t.h), .sh (.int t.t), .sh (.bool t.d), .sh ((s.run p pre).turn p t.h t.t).D, .sh (.int ((s.run p pre).g t.h)), .sh (.int (((s.run p pre).turn p t.h t.t).g t.h)), y10, y11, y12, y13, ?_⟩
      rw [Stn.run_snoc, evs_snoc, List.foldl_append])
  obtain ⟨ρ', e1, x4, x5, x6, x7, x8, x9, x10, x11, x12, x13, rfl⟩ := key
  obtain ⟨f1, f2⟩ := far_ok (evs_pos p r s)
  obtain ⟨m, f3, f4, f5⟩ := far_srt f1
  obtain ⟨d1, d2⟩ := drawn_ok p s r
  have em : m = drawn p s r := canon_eq f4 d1 fun k e => (f5 k e).trans ((f2 k e).trans (d2 k e).symm)
  have hl : ((evs p s r).foldl farStep []).length ≤ 16000000 := by
    have h1 := flen (evs p s r) []
    have h2 := evs_len p r s
    have := hr.1
    simp only [List.length_nil] at h1
    omega
  have q1 := intsL_st4 ((evs p s r).foldl farStep [])
  have q2 : (((evs p s r).foldl farStep []).map t4).length ≤ 16000000 := by rw [List.length_map]; exact hl
  have q3 : ((((evs p s r).foldl farStep []).map t4).mergeSort leL).map kL = (drawn p s r).map st4 := by
    rw [f3, em, map_t4]
  generalize (evs p s r).foldl farStep [] = fo at *
  unfold rowD at e1 ⊢
  simp only [F__law_far, runF, b__law_far, startE]
  rw [fSeq_nx (ρ1 := [.sh p.D, .sh s.D, .sh (.list (r.map Trn.D)), .ow [], .un, .un, .un, .un, .un, .un, .un, .un, .un, .un, .un]) (by simp)]
  rw [fSeq_nx (ρ1 := [.sh p.D, .sh (s.run p r).D, .sh (.list (r.map Trn.D)), .ow (fo.map st4), x4, x5, x6, x7, x8, x9, x10, x11, x12, x13, .un]) (by simp [e1])]
  simp [fSortL_eq, q1, hl, q3]

/-! edges, one by one -/
theorem rangeD_I (a : Int) (n : Nat) : rangeD a n = (rngI a n).map PyData.int := by
  unfold rangeD rngI
  rw [List.map_map]
  rfl
theorem rg2_of {i j : Int} (h : -4000000000000000000 ≤ i ∧ i ≤ 4000000000000000000 ∧ -4000000000000000000 ≤ j ∧ j ≤ 4000000000000000000) : rg2 [.int i, .int j] = some ((rngI i (j - i).toNat).map PyData.int) := by
  rw [← rangeD_I]
  exact if_pos ⟨by omega, by omega, by omega, by omega⟩
theorem rngI_len (a : Int) (n : Nat) : (rngI a n).length = n := by
  unfold rngI
  rw [List.length_map, List.length_range]
def Wid (B : Int) (l : List S4) : Prop := ∀ x ∈ l, -B ≤ x.2.1 ∧ x.2.2 ≤ B ∧ x.2.1 < x.2.2
def eD (z : List Int) : PyData := kL z
theorem of_lc (k : Int × Int) (l : List Int) (u a4 a5 : Sl) (R : PyData) : lcL [6] (gVar 6) fYes (fTup (fCons (fVar 2) (fCons (fVar 3) (fCons (fVar 6) fNil)))) (l.map PyData.int) [.sh R, u, .sh (.int k.1), .sh (.int k.2), a4, a5, .un] = some (l.map fun e => eD (e3 k e), [.sh R, u, .sh (.int k.1), .sh (.int k.2), a4, a5, .un]) :=
  lcL_map PyData.int (fun e => eD (e3 k e)) l fun e he => ⟨[.sh R, u, .sh (.int k.1), .sh (.int k.2), a4, a5, .sh (.int e)], [.sh R, u, .sh (.int k.1), .sh (.int k.2), a4, a5, .sh (.int e)], rfl, by simp [eD, kL, e3], rfl⟩
theorem edgesS_len (x : S4) : (edgesS x).length = (x.2.2 - x.2.1).toNat := by
  unfold edgesS
  rw [List.length_map, rngI_len]
theorem edgesS_map (x : S4) : (edgesS x).map eD = (rngI x.2.1 (x.2.2 - x.2.1).toNat).map fun e => eD (e3 x.1 e) := by
  unfold edgesS
  rw [List.map_map]
  rfl
theorem sp_edges_of {l : List S4} (hw : Wid 3000000000000000000 l) (hn : (l.flatMap edgesS).length ≤ 1000000) : F__law_edges_of [.tuple (l.map st4)] = some (.sh (.list ((l.flatMap edgesS).map eD))) := by
  have key := forL_run (g := gTu 4 (gCo (gVar 2) (gCo (gVar 3) (gCo (gVar 4) (gCo (gVar 5) gNo))))) (F := fSet 1 (fCat (fVar 1) (fFz (fLc [6] (fRg rg2 (fCons (fVar 4) (fCons (fVar 5) fNil))) (gVar 6) fYes (fTup (fCons (fVar 2) (fCons (fVar 3) (fCons (fVar 6) fNil)))))))) (toD := st4) (xs := l)
    (ρ := [.sh (.tuple (l.map st4)), .ow [], .un, .un, .un, .un, .un]) (Inv := fun pre ρ => ∃ x2 x3 x4 x5, ρ = [.sh (.tuple (l.map st4)), .ow ((pre.flatMap edgesS).map eD), x2, x3, x4, x5, .un]) ⟨_, _, _, _, rfl⟩
    (fun pre x post ρ1 e ⟨x2, x3, x4, x5, hρ⟩ => by
      subst hρ
      have wx := hw x (by rw [e]; simp)
      have h1 := rg2_of (i := x.2.1) (j := x.2.2) (by omega)
      have hlen : (pre.flatMap edgesS).length + (edgesS x).length ≤ 1000000 := by
        rw [e, List.flatMap_append, List.flatMap_cons, List.length_append, List.length_append] at hn
        omega
      have n1 : (rngI x.2.1 (x.2.2 - x.2.1).toNat).length ≤ 16000000 := by
        rw [rngI_len, ← edgesS_len]
        omega
      have n2 : (pre.flatMap edgesS).length + (rngI x.2.1 (x.2.2 - x.2.1).toNat).length ≤ 16777216 := by
        rw [rngI_len, ← edgesS_len]
        omega
      have l1 := of_lc x.1 (rngI x.2.1 (x.2.2 - x.2.1).toNat) (.sh (.list ((pre.flatMap edgesS).map eD))) (.sh (.int x.2.1)) (.sh (.int x.2.2)) (.tuple (l.map st4))
      have em := edgesS_map x
      refine ⟨_, rfl, [.sh (.tuple (l.map st4)), .ow ((pre.flatMap edgesS).map eD ++ (edgesS x).map eD), .sh (.int x.1.1), .sh (.int x.1.2), .sh (.int x.2.1), .sh (.int x.2.2), .un], ?_, .sh (.int x.1.1), .sh (.int x.1.2), .sh (.int x.2.1), .sh (.int x.2.2), ?_⟩
      · rw [em]
        generalize rngI x.2.1 (x.2.2 - x.2.1).toNat = RG at *
        generalize pre.flatMap edgesS = P at *
        simp [h1, n1, n2, l1]
      · rw [List.flatMap_append, List.map_append]
        simp)
  obtain ⟨ρ', e1, x2, x3, x4, x5, rfl⟩ := key
  simp [F__law_edges_of, runF, b__law_edges_of, startE, e1]
/-! the gears stay near -/
structure Gb (B : Int) (s : Stn) : Prop where
  g0 : -B ≤ s.g0 ∧ s.g0 ≤ B
  g1 : -B ≤ s.g1 ∧ s.g1 ≤ B
def Nrt (r : List Trn) : Prop := ∀ t ∈ r, (t.h = 0 ∨ t.h = 1) ∧ -40 ≤ t.t ∧ t.t ≤ 40
theorem Gb.g {B : Int} {s : Stn} (h : Gb B s) (k : Int) : -B ≤ s.g k ∧ s.g k ≤ B := by
  unfold Stn.g
  split
  · exact h.g0
  · exact h.g1
theorem turn_near {p : Pen} {s : Stn} {B : Int} (hs : s.In p) (hb : Gb B s) {h t : Int} (hh : h = 0 ∨ h = 1) (ht : -40 ≤ t ∧ t ≤ 40) : Gb (B + 40) (s.turn p h t) ∧ (-40 ≤ (s.turn p h t).g h - s.g h ∧ (s.turn p h t).g h - s.g h ≤ 40) := by
  obtain ⟨⟨a1, a2⟩, b1, b2⟩ := hb
  have m1 := tSo_bd (t := t) hs.1.1 hs.1.2
  have m2 := tSo_bd (t := t) hs.2.1 hs.2.2
  have k1 : -40 ≤ (tSo p.s0 s.o0 t).1 ∧ (tSo p.s0 s.o0 t).1 ≤ 40 := by
    rcases Int.le_total 0 t with h | h
    · have := m1.1 h
      omega
    · have := m1.2 h
      omega
  have k2 : -40 ≤ (tSo p.s1 s.o1 t).1 ∧ (tSo p.s1 s.o1 t).1 ≤ 40 := by
    rcases Int.le_total 0 t with h | h
    · have := m2.1 h
      omega
    · have := m2.2 h
      omega
  rcases hh with rfl | rfl
  · refine ⟨⟨?_, ?_⟩, ?_⟩
    · show -(B + 40) ≤ s.g0 + (tSo p.s0 s.o0 t).1 ∧ s.g0 + (tSo p.s0 s.o0 t).1 ≤ B + 40
      omega
    · show -(B + 40) ≤ s.g1 ∧ s.g1 ≤ B + 40
      omega
    · show -40 ≤ s.g0 + (tSo p.s0 s.o0 t).1 - s.g0 ∧ s.g0 + (tSo p.s0 s.o0 t).1 - s.g0 ≤ 40
      omega
  · refine ⟨⟨?_, ?_⟩, ?_⟩
    · show -(B + 40) ≤ s.g0 ∧ s.g0 ≤ B + 40
      omega
    · show -(B + 40) ≤ s.g1 + (tSo p.s1 s.o1 t).1 ∧ s.g1 + (tSo p.s1 s.o1 t).1 ≤ B + 40
      omega
    · show -40 ≤ s.g1 + (tSo p.s1 s.o1 t).1 - s.g1 ∧ s.g1 + (tSo p.s1 s.o1 t).1 - s.g1 ≤ 40
      omega
theorem run_near {p : Pen} : ∀ (r : List Trn) {s : Stn} {B : Int}, s.In p → Gb B s → Nrt r → Gb (B + 40 * (r.length : Int)) (s.run p r)
  | [], s, B, _, hb, _ => by
    have e : B + 40 * (([] : List Trn).length : Int) = B := by simp
    rw [e]
    exact hb
  | t :: r, s, B, hs, hb, hn => by
    obtain ⟨h1, h2, h3⟩ := hn t List.mem_cons_self
    have := run_near r (hs.turn t.h t.t) (turn_near hs hb h1 ⟨h2, h3⟩).1 fun x hx => hn x (List.mem_cons_of_mem _ hx)
    have e : B + 40 * ((t :: r).length : Int) = B + 40 + 40 * (r.length : Int) := by
      rw [List.length_cons]
      omega
    rw [e]
    exact this
theorem evs_near {p : Pen} : ∀ (r : List Trn) {s : Stn} {B : Int}, s.In p → Gb B s → Nrt r → ∀ x ∈ evs p s r, -(B + 40 * (r.length : Int)) ≤ x.2.1 ∧ x.2.2 ≤ B + 40 * (r.length : Int) ∧ x.2.2 - x.2.1 ≤ 40
  | [], _, _, _, _, _, x, hx => by cases hx
  | t :: r, s, B, hs, hb, hn, x, hx => by
    obtain ⟨h1, h2, h3⟩ := hn t List.mem_cons_self
    obtain ⟨b1, b2, b3⟩ := turn_near hs hb h1 ⟨h2, h3⟩
    rcases List.mem_append.mp hx with z | z
    · have g1 := hb.g t.h
      have g2 := b1.g t.h
      by_cases hd : t.d = true ∧ s.g t.h ≠ (s.turn p t.h t.t).g t.h
      · rw [ev_yes hd.1 hd.2] at z
        rw [List.mem_singleton.mp z, List.length_cons]
        generalize (s.turn p t.h t.t).g t.h = a at *
        generalize s.g t.h = b at *
        show -(B + 40 * ((r.length + 1 : Nat) : Int)) ≤ (if a < b then a else b) ∧ (if a > b then a else b) ≤ B + 40 * ((r.length + 1 : Nat) : Int) ∧ (if a > b then a else b) - (if a < b then a else b) ≤ 40
        refine ⟨?_, ?_, ?_⟩
        · split <;> omega
        · split <;> omega
        · split <;> split <;> omega
      · rw [ev_no hd] at z
        cases z
    · have := evs_near r (hs.turn t.h t.t) b1 (fun x hx => hn x (List.mem_cons_of_mem _ hx)) x z
      rw [List.length_cons]
      omega
theorem keysL_len {l : List S4} (h : ∀ x ∈ l, x.2.2 - x.2.1 ≤ 40) : (keysL l).length ≤ 40 * l.length := by
  have go : ∀ (l : List S4) (ks : List (List Int)), (∀ x ∈ l, x.2.2 - x.2.1 ≤ 40) → (l.foldl (fun ks x => addKs ks (edgesS x)) ks).length ≤ ks.length + 40 * l.length := by
    intro l
    induction l with
    | nil => exact fun ks _ => Nat.le_refl _
    | cons x l ih =>
      intro ks hl
      have h1 := ih (addKs ks (edgesS x)) fun z hz => hl z (List.mem_cons_of_mem _ hz)
      have h2 := addKs_len (edgesS x) ks
      have h3 := edgesS_len x
      have h4 := hl x List.mem_cons_self
      rw [List.foldl_cons, List.length_cons]
      omega
  have := go l [] h
  rw [List.length_nil, Nat.zero_add] at this
  exact this
theorem uLoop_run {α : Type} {gt : FG} {F : FGU} {toD : α → PyData} {xs : List α} {p : En × Ks} {Inv : List α → En × Ks → Prop} (h0 : Inv [] p) (hs : ∀ pre x post p1, xs = pre ++ x :: post → Inv pre p1 → ∃ ρ2, gt (toD x) p1.1 = some ρ2 ∧ ∃ p3, F (ρ2, p1.2) = some p3 ∧ Inv (pre ++ [x]) p3) :
    ∃ p', uLoop gt F (xs.map toD) p = some p' ∧ Inv xs p' := by
  have go : ∀ (post pre : List α) (p1 : En × Ks), xs = pre ++ post → Inv pre p1 → ∃ p', uLoop gt F (post.map toD) p1 = some p' ∧ Inv xs p' := by
    intro post
    induction post with
    | nil =>
      intro pre p1 e h
      rw [List.append_nil] at e
      subst e
      exact ⟨p1, rfl, h⟩
    | cons x post ih =>
      intro pre p1 e h
      obtain ⟨ρ2, h1, p3, h2, h3⟩ := hs pre x post p1 e h
      obtain ⟨p', h4, h5⟩ := ih (pre ++ [x]) p3 (by rw [e, List.append_assoc]; rfl) h3
      refine ⟨p', ?_, h5⟩
      show ((gt (toD x) p1.1).bind fun ρ1 => (F (ρ1, p1.2)).bind (uLoop gt F (post.map toD))) = some p'
      rw [h1, Option.bind_some, h2, Option.bind_some]
      exact h4
  exact go xs [] p rfl h0
def prD2 (k : Int × Int) (e : Int) : PyData := .tuple [eD (e3 k e), .bool true]
theorem prsK_map (k : Int × Int) : ∀ l : List Int, prsK (l.map (prD2 k)) = some (l.map (e3 k))
  | [] => rfl
  | e :: l => by
    show ((intsO ((e3 k e).map .int)).bind fun m => (prsK (l.map (prD2 k))).map (m :: ·)) = _
    rw [intsO_map, Option.bind_some, prsK_map k l]
    rfl
theorem up_lc (k : Int × Int) (l : List Int) {s : Stn} (hx : hIx s.D (.int 0) = some (.tuple [.int s.g0, .int s.g1])) (hx2 : hIx (.tuple [.int s.g0, .int s.g1]) (.int (1 - k.1)) = some (.int k.2)) (a0 a2 a3 a5 a6 a7 a8 a9 : Sl) :
    lcL [10] (gVar 10) fYes (fTup (fCons (fTup (fCons (fVar 4) (fCons (fBin hIx (fBin hIx (fVar 1) (fC (.int 0))) (fBin hSub (fC (.int 1)) (fVar 4))) (fCons (fVar 10) fNil)))) (fCons (fC (.bool true)) fNil))) (l.map PyData.int) [a0, .sh s.D, a2, a3, .sh (.int k.1), a5, a6, a7, a8, a9, .un] =
      some (l.map (prD2 k), [a0, .sh s.D, a2, a3, .sh (.int k.1), a5, a6, a7, a8, a9, .un]) :=
  lcL_map PyData.int (prD2 k) l fun e he => ⟨[a0, .sh s.D, a2, a3, .sh (.int k.1), a5, a6, a7, a8, a9, .sh (.int e)], [a0, .sh s.D, a2, a3, .sh (.int k.1), a5, a6, a7, a8, a9, .sh (.int e)], rfl, by simp [hx, hx2, prD2, eD, kL, e3], rfl⟩
theorem ev_keys (s s' : Stn) (t : Trn) (ks : List (List Int)) (hd : t.d = true) : (ev s s' t).foldl (fun ks x => addKs ks (edgesS x)) ks = addKs ks ((rngI (if s'.g t.h < s.g t.h then s'.g t.h else s.g t.h) ((if s'.g t.h > s.g t.h then s'.g t.h else s.g t.h) - (if s'.g t.h < s.g t.h then s'.g t.h else s.g t.h)).toNat).map (e3 (t.h, s.g (1 - t.h)))) := by
  by_cases h : s.g t.h = s'.g t.h
  · rw [ev_no (fun z => z.2 h), h]
    have e : ((if s'.g t.h > s'.g t.h then s'.g t.h else s'.g t.h) - (if s'.g t.h < s'.g t.h then s'.g t.h else s'.g t.h)).toNat = 0 := by
      simp
    rw [e]
    rfl
  · rw [ev_yes hd h]
    rfl
theorem up_turn {p : Pen} {s : Stn} {R : PyData} {ks : Ks} {t : Trn} {B : Int} (hh : t.h = 0 ∨ t.h = 1) (ht : -40 ≤ t.t ∧ t.t ≤ 40) (hs : s.In p) (hb : Gb B s) (hB : B ≤ 2000000000000000000) (hk : ks.length ≤ 10000) (x7 x8 x9 : Sl) :
    b__law_edges_u ([.sh p.D, .sh s.D, .sh R, .pi, .sh (.int t.h), .sh (.int t.t), .sh (.bool t.d), x7, x8, x9, .un], ks) =
      some ([.sh p.D, .sh (s.turn p t.h t.t).D, .sh R, .pi, .sh (.int t.h), .sh (.int t.t), .sh (.bool t.d), .sh (s.turn p t.h t.t).D, .sh (.int (s.g t.h)), .sh (.int ((s.turn p t.h t.t).g t.h)), .un], (ev s (s.turn p t.h t.t) t).foldl (fun ks x => addKs ks (edgesS x)) ks) := by
  have c1 := sp_law_turned (p := p) (s := s) (h := t.h) (t := t.t) hh hs
  have c3 := stn_gx s hh
  have c4 := stn_gx (s.turn p t.h t.t) hh
  have c5 := stn_gx s (h := 1 - t.h) (by omega)
  have hx0 := stn_ix0 s
  have hx1 := stn_ix0 (s.turn p t.h t.t)
  obtain ⟨b1, b2, b3⟩ := turn_near hs hb hh ht
  have g1 := hb.g t.h
  have g2 := b1.g t.h
  cases hd : t.d with
  | false =>
    rw [ev_no (fun z => by rw [hd] at z; cases z.1)]
    simp [b__law_edges_u, uSeq, uLift, uIf, uSkip, c1, hx0, hx1, c3, c4]
  | true =>
    rw [ev_keys s _ t ks hd]
    have l1 := fun l a0 a2 a3 a5 a6 a7 a8 a9 => up_lc (t.h, s.g (1 - t.h)) l (s := s) hx0 c5 a0 a2 a3 a5 a6 a7 a8 a9
    generalize s.g (1 - t.h) = ac at *
    generalize s.turn p t.h t.t = s' at *
    generalize s.g t.h = b at *
    generalize s'.g t.h = a at *
    have r1 := rg2_of (i := if a < b then a else b) (j := if a > b then a else b) (by
      refine ⟨?_, ?_, ?_, ?_⟩ <;> split <;> omega)
    have n0 : ((if a > b then a else b) - (if a < b then a else b)).toNat ≤ 40 := by
      split <;> split <;> omega
    generalize hn : ((if a > b then a else b) - (if a < b then a else b)).toNat = n at *
    generalize hlo : (if a < b then a else b) = lo at *
    generalize hhi : (if a > b then a else b) = hi at *
    have k1 := prsK_map (t.h, ac) (rngI lo n)
    have n1 := rngI_len lo n
    generalize rngI lo n = RG at *
    have m1 : hMin [.int b, .int a] = some (.sh (.int lo)) := by rw [← hlo]; rfl
    have m2 : hMax [.int b, .int a] = some (.sh (.int hi)) := by rw [← hhi]; rfl
    have n2 : RG.length ≤ 16000000 := by omega
    have n3 : ks.length + RG.length ≤ 16000000 := by omega
    have k2 : prKeys (.list (RG.map (prD2 (t.h, ac)))) = some (RG.map (e3 (t.h, ac))) := k1
    have l2 := fun a0 a2 a3 a5 a6 a7 a8 a9 => l1 RG a0 a2 a3 a5 a6 a7 a8 a9
    simp [b__law_edges_u, uSeq, uLift, uIf, uSkip, uUp, c1, hx0, hx1, c3, c4, m1, m2, r1, n2, l2, k2, n3]
theorem sp_edges {p : Pen} {s : Stn} {r : List Trn} (hs : s.In p) (hb : Gb 1000000000000000 s) (hr : r.length ≤ 60) (hn : Nrt r) : F__law_edges [p.D, s.D, rowD r] = some (.ow (((keysL (evs p s r)).mergeSort leL).map eD)) := by
  have kl : ∀ q : List Trn, q.length ≤ 60 → Nrt q → (keysL (evs p s q)).length ≤ 2400 := fun q h1 h2 => by
    have a1 := keysL_len fun x hx => (evs_near q hs hb h2 x hx).2.2
    have a2 := evs_len p q s
    omega
  have key := uLoop_run (gt := gTu 3 (gCo (gVar 4) (gCo (gVar 5) (gCo (gVar 6) gNo)))) (F := b__law_edges_u) (toD := Trn.D) (xs := r) (p := ([.sh p.D, .sh s.D, .sh (rowD r), .pi, .un, .un, .un, .un, .un, .un, .un], []))
    (Inv := fun pre c => ∃ x4 x5 x6 x7 x8 x9, c = ([.sh p.D, .sh (s.run p pre).D, .sh (rowD r), .pi, x4, x5, x6, x7, x8, x9, .un], keysL (evs p s pre)) ∧ ∀ y ∈ [x4, x5, x6, x7, x8, x9], clS y = true) ⟨_, _, _, _, _, _, rfl, by simp [clS]⟩ (fun pre t post c e ⟨x4, x5, x6, x7, x8, x9, hc, _⟩ => by
      subst hc
      have ht := hn t (by rw [e]; simp)
      have hl : pre.length ≤ 60 := by
        rw [e, List.length_append] at hr
        omega
      have hq : Nrt pre := fun x hx => hn x (by rw [e]; exact List.mem_append_left _ hx)
      have gb := run_near pre hs hb hq
      have k0 := kl pre hl hq
      have e2 := up_turn (R := rowD r) ht.1 ht.2 (hs.run pre) gb (by omega) (ks := keysL (evs p s pre)) (by omega) x7 x8 x9
      refine ⟨_, rfl, _, e2, .sh (.int t.h), .sh (.int t.t), .sh (.bool t.d), .sh ((s.run p pre).turn p t.h t.t).D, .sh (.int ((s.run p pre).g t.h)), .sh (.int (((s.run p pre).turn p t.h t.t).g t.h)), ?_, by simp [cl_sh]⟩
      rw [Stn.run_snoc, evs_snoc]
      unfold keysL
      rw [List.foldl_append])
  obtain ⟨c, e1, x4, x5, x6, x7, x8, x9, rfl, n1⟩ := key
  have k0 := kl r hr hn
  obtain ⟨k1, k2⟩ := keysL_ok (evs p s r)
  have k3 : (keysL (evs p s r)).all (fun l => !l.isEmpty) = true := by
    rw [List.all_eq_true]
    intro z hz
    obtain ⟨k, e, rfl, _⟩ := (k2 z).mp hz
    rfl
  have n2 := (clS_ok (ρ := [.sh p.D, .sh (s.run p r).D, .sh (rowD r), .un, x4, x5, x6, x7, x8, x9, .un]) fun y hy => by
    rcases List.mem_cons.mp hy with z | hy
    · rw [z]; rfl
    rcases List.mem_cons.mp hy with z | hy
    · rw [z]; rfl
    rcases List.mem_cons.mp hy with z | hy
    · rw [z]; rfl
    rcases List.mem_cons.mp hy with z | hy
    · rw [z]; rfl
    by_cases q : y ∈ [x4, x5, x6, x7, x8, x9]
    · exact n1 y q
    · simp only [List.mem_cons, List.not_mem_nil, or_false] at hy q
      have : y = .un := by
        rcases hy with h | h | h | h | h | h | h <;> first | exact h | exact (q (by simp [h])).elim
      rw [this]
      rfl).1
  have e5 : uFor (fItems (fVar 2)) (gTu 3 (gCo (gVar 4) (gCo (gVar 5) (gCo (gVar 6) gNo)))) b__law_edges_u ([.sh p.D, .sh s.D, .sh (rowD r), .pi, .un, .un, .un, .un, .un, .un, .un], []) = some ([.sh p.D, .sh (s.run p r).D, .sh (rowD r), .pi, x4, x5, x6, x7, x8, x9, .un], keysL (evs p s r)) := e1
  generalize keysL (evs p s r) = ks at *
  have e6 : fKeys 3 (fItems (fVar 2)) (gTu 3 (gCo (gVar 4) (gCo (gVar 5) (gCo (gVar 6) gNo)))) b__law_edges_u [.sh p.D, .sh s.D, .sh (rowD r), .ot [], .un, .un, .un, .un, .un, .un, .un] = some (.rt (.ow ((ks.mergeSort leL).map kL)) [.sh p.D, .sh (s.run p r).D, .sh (rowD r), .un, x4, x5, x6, x7, x8, x9, .un]) := by
    show (if nopi [.sh p.D, .sh s.D, .sh (rowD r), .ot [], .un, .un, .un, .un, .un, .un, .un] = true then (uFor (fItems (fVar 2)) (gTu 3 (gCo (gVar 4) (gCo (gVar 5) (gCo (gVar 6) gNo)))) b__law_edges_u ([.sh p.D, .sh s.D, .sh (rowD r), .pi, .un, .un, .un, .un, .un, .un, .un], [])).bind _ else none) = _
    rw [if_pos (show nopi [.sh p.D, .sh s.D, .sh (rowD r), .ot [], .un, .un, .un, .un, .un, .un, .un] = true from rfl), e5, Option.bind_some]
    show (if nopi [.sh p.D, .sh (s.run p r).D, .sh (rowD r), .un, x4, x5, x6, x7, x8, x9, .un] = true ∧ ks.all (fun l => !l.isEmpty) = true ∧ ks.length ≤ 16000000 then some (Out.rt (.ow ((ks.mergeSort leL).map kL)) [.sh p.D, .sh (s.run p r).D, .sh (rowD r), .un, x4, x5, x6, x7, x8, x9, .un]) else none) = _
    rw [if_pos ⟨n2, k3, by omega⟩]
  unfold F__law_edges runF b__law_edges
  simp only [startE]
  rw [fSeq_nx (ρ1 := [.sh p.D, .sh s.D, .sh (rowD r), .ot [], .un, .un, .un, .un, .un, .un, .un]) rfl, e6]
  rfl

/-! the law -/
theorem drawn_len {p : Pen} {s : Stn} {r : List Trn} (hr : RowOk r) : (drawn p s r).length ≤ 10000 := by
  have sm := dgRun_small p s r
  have h : GSm 100 (dgRun p s r).2 := ⟨by have := sm.1; have := hr.1; omega, fun x hx => by have := sm.2 x hx; have := hr.1; omega⟩
  have h1 := flat_len (line_len h) (((dgRun p s r).2.map (·.1)).mergeSort ppLe)
  rw [List.length_mergeSort, List.length_map] at h1
  have h2 : (dgRun p s r).2.length * 100 ≤ 100 * 100 := Nat.mul_le_mul_right _ h.1
  unfold drawn strokeL
  omega
theorem goodD_eD (l : List (List Int)) (h : l.length ≤ 1000) (h2 : ∀ z ∈ l, z.length ≤ 1000) : goodD 2 (.list (l.map eD)) = true := by
  simp only [goodD, Bool.and_eq_true, decide_eq_true_eq, List.all_eq_true, List.length_map]
  refine ⟨by omega, fun x hx => ?_⟩
  obtain ⟨y, hy, rfl⟩ := List.mem_map.mp hx
  have := h2 y hy
  simp [eD, kL, goodD]
  omega
def up (t : Trn) : Trn := ⟨t.h, t.t, false⟩
theorem cut3t (h t : Int) (d : Bool) : cutD [PyData.int h, .int t, .bool d] none (some 2) = [PyData.int h, .int t] := (cut_map id [PyData.int h, .int t, .bool d] 2 (by decide)).1
theorem up_lc4 (l : List Trn) (a0 a1 a2 a3 a4 a5 a6 a7 a8 : Sl) : lcL [9] (gVar 9) fYes (fBin hAdd (fFz (fCut (fVar 9) fNo (fPt (fC (.int 2))))) (fTup (fCons (fC (.bool false)) fNil))) (l.map Trn.D) [a0, a1, a2, a3, a4, a5, a6, a7, a8, .un] = some ((l.map up).map Trn.D, [a0, a1, a2, a3, a4, a5, a6, a7, a8, .un]) := by
  rw [List.map_map]
  exact lcL_map Trn.D (Trn.D ∘ up) l fun t ht => ⟨[a0, a1, a2, a3, a4, a5, a6, a7, a8, .sh t.D], [a0, a1, a2, a3, a4, a5, a6, a7, a8, .sh t.D], rfl, by simp [Trn.D, up, cut3t], rfl⟩
theorem run_up (p : Pen) : ∀ (l : List Trn) (s : Stn), s.run p (l.map up) = s.run p l
  | [], _ => rfl
  | t :: l, s => run_up p l (s.turn p t.h t.t)
theorem run_app (p : Pen) (l m : List Trn) (s : Stn) : s.run p (l ++ m) = (s.run p l).run p m := by
  unfold Stn.run
  rw [List.foldl_append]
theorem drawn_same {p : Pen} {s : Stn} {r q : List Trn} (h : evs p s r = evs p s q) : drawn p s r = drawn p s q := by
  obtain ⟨h1, h2⟩ := drawn_ok p s r
  obtain ⟨h3, h4⟩ := drawn_ok p s q
  exact canon_eq h1 h3 fun k e => (h2 k e).trans (by rw [h, h4])
theorem drawn_up {p : Pen} {s : Stn} (r : List Trn) : drawn p s (r.map up) = [] := by
  obtain ⟨h1, h2⟩ := drawn_ok p s (r.map up)
  refine canon_eq h1 ⟨fun x hx => (by cases hx), List.Pairwise.nil⟩ fun k e => (h2 k e).trans ?_
  rw [evs_up p (r.map up) s fun t ht => by
    obtain ⟨x, _, rfl⟩ := List.mem_map.mp ht
    rfl]
theorem RowOk.up {r : List Trn} (h : RowOk r) : RowOk (r.map up) := ⟨by rw [List.length_map]; exact h.1, fun t ht => by
  obtain ⟨x, hx, rfl⟩ := List.mem_map.mp ht
  exact h.2 x hx⟩
theorem goodD_drawn {p : Pen} {s : Stn} {r : List Trn} (hr : RowOk r) : goodD 2 (.list ((drawn p s r).map st4)) = true ∧ goodD 2 (.tuple ((drawn p s r).map st4)) = true :=
  goodD_st4s _ (by have := drawn_len (p := p) (s := s) hr; omega)
theorem near_row {r : List Trn} (h : RowIn 30 40 r) : Nrt r := fun t ht => ⟨(h.2 t ht).1, by have := (h.2 t ht).2; omega⟩
/-- edges told by the strokes are the edges gone through -/
theorem edges_both {p : Pen} {s : Stn} {r : List Trn} (hs : s.In p) (hb : Gb 1000000000000000 s) (hr : r.length ≤ 30) (hn : Nrt r) :
    F__law_edges_of [.tuple ((drawn p s r).map st4)] = some (.sh (.list (((keysL (evs p s r)).mergeSort leL).map eD))) ∧ goodD 2 (.list (((keysL (evs p s r)).mergeSort leL).map eD)) = true := by
  obtain ⟨h1, h2⟩ := drawn_ok p s r
  have ek := edges_keys h1 h2
  have a0 := evs_near r hs hb hn
  have a1 := keysL_len fun x hx => (a0 x hx).2.2
  have a2 := evs_len p r s
  have hk : (keysL (evs p s r)).length ≤ 1200 := by omega
  have hw : Wid 3000000000000000000 (drawn p s r) := fun x hx => by
    have px := h1.pos x hx
    obtain ⟨y, hy, _, y1, y2⟩ := (h2 x.1 x.2.1).mp ⟨x, hx, rfl, Int.le_refl _, px⟩
    obtain ⟨z, hz, _, z1, z2⟩ := (h2 x.1 (x.2.2 - 1)).mp ⟨x, hx, rfl, by omega, by omega⟩
    have b1 := a0 y hy
    have b2 := a0 z hz
    omega
  have e1 := sp_edges_of hw (by rw [ek, List.length_mergeSort]; omega)
  rw [ek] at e1
  refine ⟨e1, ?_⟩
  obtain ⟨_, k2⟩ := keysL_ok (evs p s r)
  simp only [goodD, Bool.and_eq_true, decide_eq_true_eq, List.all_eq_true, List.length_map, List.length_mergeSort]
  refine ⟨by omega, fun x hx => ?_⟩
  obtain ⟨y, hy, rfl⟩ := List.mem_map.mp hx
  obtain ⟨k, e, rfl, _⟩ := (k2 y).mp (List.mem_mergeSort.mp hy)
  simp [eD, kL, e3, goodD]
theorem main_k04 (v : V) (b : List Int) (hb : BagOk 100000 b) : ∃ ρ', b_main [.ad v, .ow (bagL b), .un, .un, .un, .un, .un, .un, .un, .un] = some (.nx ρ') ∧ ρ'.length = 10 ∧ ρ'[0]? = some (.ad v) := by
  obtain ⟨r1, b1, e1, g1, g2, k1⟩ := sp_take (m := 2) hb (by decide) (by decide) (by decide)
  obtain ⟨m1, p1, q1⟩ := pick2 (x := 20) (y := 3) g1 g2
  obtain ⟨p, b2, e2, hp, _, _, k2⟩ := sp_law_pen (m := m1) k1 (by decide) (by omega) (by omega)
  obtain ⟨r2, b3, e3, g3, g4, k3⟩ := sp_take (m := 2) k2 (by decide) (by decide) (by decide)
  obtain ⟨f1, p2, q2⟩ := pick2 (x := 1000000000000000) (y := 3) g3 g4
  obtain ⟨s, b4, e4, hs, _, _, k4⟩ := sp_law_stand (f := f1) k3 (by decide) hp (by omega) (by omega)
  obtain ⟨r, b5, e5, hr, k5⟩ := sp_law_row (m := 30) (f := 40) k4 (by decide) (by decide) (by decide) (by decide) (by decide)
  obtain ⟨f, b6, e6, hf, k6⟩ := sp_law_row (m := 60) (f := 1000000000000) k5 (by decide) (by decide) (by decide) (by decide) (by decide)
  have ok := hr.ok (by decide) (by decide)
  have okf := hf.ok (by decide) (by decide)
  have w1 : hPow (.int 10) (.int 15) = some (.int 1000000000000000) := by rfl
  have w2 : hPow (.int 10) (.int 12) = some (.int 1000000000000) := by rfl
  have hgb : Gb 1000000000000000 s := ⟨hs.g0, hs.g1⟩
  have hl30 : r.length ≤ 30 := by have := hr.1; omega
  have hnr := near_row hr
  obtain ⟨c1, gd1⟩ := edges_both hs.inn hgb hl30 hnr
  have c2 := sp_edges hs.inn hgb (by omega) hnr
  have c3 : F_drawing [p.D, s.D, rowD r] = some (.sh (.tuple ((drawn p s r).map st4))) := sp_drawing hp hs ok
  have c4 := sp_law_far (p := p) hs.inn ok
  have c5 : F_drawing [p.D, s.D, rowD f] = some (.sh (.tuple ((drawn p s f).map st4))) := sp_drawing hp hs okf
  have c6 := sp_law_far (p := p) hs.inn okf
  have c7 : F_drawing [p.D, s.D, rowD (r.map up)] = some (.sh (.tuple [])) := by
    have : F_drawing [p.D, s.D, rowD (r.map up)] = some (.sh (.tuple ((drawn p s (r.map up)).map st4))) := sp_drawing hp hs ok.up
    rw [drawn_up] at this
    exact this
  obtain ⟨gl, gt⟩ := goodD_drawn (p := p) (s := s) ok
  obtain ⟨_, gtf⟩ := goodD_drawn (p := p) (s := s) okf
  have n1 := hNe_self 2 gd1
  have n2 := hNe_self 2 gl
  have t1 := sp_same8 2 gt
  have t2 := sp_same8 2 gtf
  have n3 : hNe (.tuple []) (.tuple []) = some (.bool false) := hNe_self 1 rfl
  have i1 : intsL ((drawn p s r).map st4) = some ((drawn p s r).map t4) := intsL_st4 _
  have i2 : (((drawn p s r).map t4).mergeSort leL).map kL = (drawn p s r).map st4 := by
    rw [canon_srt (drawn_ok p s r).1, map_t4]
  have i3 : (drawn p s r).length ≤ 16000000 := by have := drawn_len (p := p) (s := s) ok; omega
  -- the first of it, and the rest with the pen up
  have oks : RowOk (r.take 10) := ⟨Nat.le_trans (List.length_take_le' ..) ok.1, fun t ht => ok.2 t (List.mem_of_mem_take ht)⟩
  have okd : RowOk (r.take 10 ++ (r.drop 10).map up) := ⟨by
    have := congrArg List.length (List.take_append_drop 10 r)
    rw [List.length_append] at this ⊢
    rw [List.length_map]
    have := ok.1
    omega, fun t ht => by
    rcases List.mem_append.mp ht with z | z
    · exact ok.2 t (List.mem_of_mem_take z)
    · obtain ⟨x, hx, rfl⟩ := List.mem_map.mp z
      exact ok.2 x (List.mem_of_mem_drop hx)⟩
  have c8 : F_drawing [p.D, s.D, rowD (r.take 10 ++ (r.drop 10).map up)] = some (.sh (.tuple ((drawn p s (r.take 10)).map st4))) := by
    have : F_drawing [p.D, s.D, rowD (r.take 10 ++ (r.drop 10).map up)] = some (.sh (.tuple ((drawn p s (r.take 10 ++ (r.drop 10).map up)).map st4))) := sp_drawing hp hs okd
    rw [drawn_same (q := r.take 10) (by rw [evs_app, evs_up p ((r.drop 10).map up) _ fun t ht => by
      obtain ⟨x, _, rfl⟩ := List.mem_map.mp ht
      rfl, List.append_nil])] at this
    exact this
  have c9 := sp_law_far (p := p) hs.inn oks
  have n4 := hNe_self 2 (goodD_drawn (p := p) (s := s) oks).2
  have c10 := sp_behind hp hs okd
  have c11 := sp_behind hp hs ok
  have er : s.run p (r.take 10 ++ (r.drop 10).map up) = s.run p r := by
    rw [run_app, run_up, ← run_app, List.take_append_drop]
  rw [er] at c10
  have n5 := hNe_self 2 (goodD_stn (s.run p r))
  obtain ⟨x1, x2⟩ := cut_map Trn.D r 10 (by decide)
  have x1 : cutD (r.map Trn.D) none (some 10) = (r.take 10).map Trn.D := x1
  have x2 : cutD (r.map Trn.D) (some 10) none = (r.drop 10).map Trn.D := x2
  have l1 := up_lc4 r
  have l2 := up_lc4 (r.drop 10)
  have y1 : r.length ≤ 16000000 := by omega
  have y2 : (r.drop 10).length ≤ 16000000 := by
    rw [List.length_drop]
    omega
  have y3 : (r.take 10).length + (r.drop 10).length ≤ 16777216 := by
    have := congrArg List.length (List.take_append_drop 10 r)
    rw [List.length_append] at this
    omega
  have y4 : ((r.take 10).map Trn.D).length + (((r.drop 10).map up).map Trn.D).length ≤ 16777216 := by
    rw [List.length_map, List.length_map, List.length_map]
    exact y3
  unfold rowD at c2 c3 c4 c5 c6 c7 c8 c9 c10 c11
  rw [List.map_append] at c8 c10
  generalize ((keysL (evs p s r)).mergeSort leL).map eD = ED at *
  have i3' : ((drawn p s r).map t4).length ≤ 16000000 := by rw [List.length_map]; exact i3
  generalize (drawn p s r).map t4 = TT at *
  generalize (drawn p s r).map st4 = DR at *
  generalize (drawn p s f).map st4 = DF at *
  generalize (drawn p s (r.take 10)).map st4 = DS at *
  have y5 : (r.map Trn.D).length ≤ 16000000 := by rw [List.length_map]; exact y1
  have y6 : ((r.drop 10).map Trn.D).length ≤ 16000000 := by rw [List.length_map]; exact y2
  generalize (r.map up).map Trn.D = RU at *
  generalize ((r.drop 10).map up).map Trn.D = DU at *
  generalize (r.drop 10).map Trn.D = RD at *
  generalize (r.take 10).map Trn.D = RT at *
  generalize s.run p r = sr at *
  generalize r.map Trn.D = RR at *
  generalize f.map Trn.D = FF at *
  unfold b_main
  rw [fSeq_nx (ρ1 := [.ad v, .ow (bagL b2), .sh p.D, .un, .un, .un, .un, .un, .un, .un]) (by simp [e1, p1, e2])]
  rw [fSeq_nx (ρ1 := [.ad v, .ow (bagL b4), .sh p.D, .sh s.D, .un, .un, .un, .un, .un, .un]) (by simp [w1, e3, p2, e4])]
  rw [fSeq_nx (ρ1 := [.ad v, .ow (bagL b5), .sh p.D, .sh s.D, .ow RR, .un, .un, .un, .un, .un]) (by simp [e5])]
  rw [fSeq_nx (ρ1 := [.ad v, .ow (bagL b5), .sh p.D, .sh s.D, .sh (.list RR), .sh (.tuple DR), .un, .un, .un, .un]) (by simp [c3])]
  rw [fSeq_nx (ρ1 := [.ad v, .ow (bagL b5), .sh p.D, .sh s.D, .sh (.list RR), .sh (.tuple DR), .un, .un, .un, .un]) (by simp [c1, c2, n1, isi_tup (d := .tuple DR) rfl, kTup])]
  rw [fSeq_nx (ρ1 := [.ad v, .ow (bagL b5), .sh p.D, .sh s.D, .sh (.list RR), .sh (.tuple DR), .un, .un, .un, .un]) (by simp [i1, i3', i2, n2, c4, t1])]
  rw [fSeq_nx (ρ1 := [.ad v, .ow (bagL b6), .sh p.D, .sh s.D, .sh (.list RR), .sh (.tuple DR), .ow FF, .un, .un, .un]) (by simp [w2, e6])]
  rw [fSeq_nx (ρ1 := [.ad v, .ow (bagL b6), .sh p.D, .sh s.D, .sh (.list RR), .sh (.tuple DR), .sh (.list FF), .un, .un, .un]) (by simp [c5, c6, t2])]
  rw [fSeq_nx (ρ1 := [.ad v, .ow (bagL b6), .sh p.D, .sh s.D, .sh (.list RR), .sh (.tuple DR), .sh (.list FF), .un, .un, .un]) (by simp [l1, y5, c7, n3])]
  rw [fSeq_nx (ρ1 := [.ad v, .ow (bagL b6), .sh p.D, .sh s.D, .sh (.list RR), .sh (.tuple DR), .sh (.list FF), .ow RT, .un, .un]) (by simp [x1])]
  rw [fSeq_nx (ρ1 := [.ad v, .ow (bagL b6), .sh p.D, .sh s.D, .sh (.list RR), .sh (.tuple DR), .sh (.list FF), .ow RT, .ow DU, .un]) (by simp [x2, l2, y6])]
  rw [fSeq_nx (ρ1 := [.ad v, .ow (bagL b6), .sh p.D, .sh s.D, .sh (.list RR), .sh (.tuple DR), .sh (.list FF), .sh (.list RT), .sh (.list DU), .un]) (by simp [y4, c8, c9, n4])]
  refine ⟨[.ad v, .ow (bagL b6), .sh p.D, .sh s.D, .sh (.list RR), .sh (.tuple DR), .sh (.list FF), .sh (.list RT), .sh (.list DU), .un], ?_, rfl, rfl⟩
  simp [y4, c10, c11, n5]
theorem law_ok : LawOk 10 8 1 fNext b_main := lawOk_bare (n := 9) (by decide) (by decide) (fun v => ⟨_, rfl, rfl, rfl⟩) main_k04

/-- what the top has left -/
structure Tx (K : PySem.W.Frag) (mg : Str → Option Value) : Prop where
  n_isinstance : mg "isinstance" = none
  n_len : mg "len" = none
  n_all : mg "all" = none
  n_range : mg "range" = none
  n_zip : mg "zip" = none
  n_tuple : mg "tuple" = none
  n_list : mg "list" = none
  n_sorted : mg "sorted" = none
  n_enumerate : mg "enumerate" = none
  n_min : mg "min" = none
  n_max : mg "max" = none
  n_bool : mg "bool" = none
  n_int : mg "int" = none
  n_str : mg "str" = none
  c_MOST_SLACK : ∃ t, mg "MOST_SLACK" = some (.int 20 t)
  c_MOST_LEAD : ∃ t, mg "MOST_LEAD" = some (.int 9 t)
  c_MOST_GEAR : ∃ t, mg "MOST_GEAR" = some (.int 1000000000000000 t)
  c_MOST_TURN : ∃ t, mg "MOST_TURN" = some (.int 1000000000000 t)
  c_MOST_ROW : ∃ t, mg "MOST_ROW" = some (.int 60 t)
  d_is_whole : DefAt K mg "is_whole" s_is_whole
  d_is_within : DefAt K mg "is_within" s_is_within
  d_is_pair : DefAt K mg "is_pair" s_is_pair
  d_is_hand : DefAt K mg "is_hand" s_is_hand
  d_is_pen : DefAt K mg "is_pen" s_is_pen
  d_is_stand : DefAt K mg "is_stand" s_is_stand
  d_is_turn : DefAt K mg "is_turn" s_is_turn
  d_is_row : DefAt K mg "is_row" s_is_row
  d_look_at_pen : DefAt K mg "look_at_pen" s_look_at_pen
  d_look_at_row : DefAt K mg "look_at_row" s_look_at_row
  d_turned_so : DefAt K mg "turned_so" s_turned_so
  d_put : DefAt K mg "put" s_put
  d_turned : DefAt K mg "turned" s_turned
  d_behind : DefAt K mg "behind" s_behind
  d_joined : DefAt K mg "joined" s_joined
  d_strokes_of : DefAt K mg "strokes_of" s_strokes_of
  d_drawing : DefAt K mg "drawing" s_drawing
  d__law_well : DefAt K mg "_law_well" s__law_well
  d__law_take : DefAt K mg "_law_take" s__law_take
  d__law_bags : DefAt K mg "_law_bags" s__law_bags
  d__law_same : DefAt K mg "_law_same" s__law_same
  d__law_lead : DefAt K mg "_law_lead" s__law_lead
  d__law_pen : DefAt K mg "_law_pen" s__law_pen
  d__law_stand : DefAt K mg "_law_stand" s__law_stand
  d__law_row : DefAt K mg "_law_row" s__law_row
  d__law_turned : DefAt K mg "_law_turned" s__law_turned
  d__law_edges : DefAt K mg "_law_edges" s__law_edges
  d__law_edges_of : DefAt K mg "_law_edges_of" s__law_edges_of
  d__law_far : DefAt K mg "_law_far" s__law_far
  d_law : DefAt K mg "law" s_law

section
variable {P : Program} {w : World} {K : PySem.W.Frag} {mg : Str → Option Value} {base : Heap}
abbrev N_is_whole : List Str := ["thing"]
theorem sc_is_whole : FnScope N_is_whole ["thing"] (defScope s_is_whole) := ⟨rfl, rfl, rfl, by decide +kernel, rfl, by decide +kernel, by decide +kernel⟩
theorem ok_is_whole (M : Tx K mg) : CalR P w K mg base 1 "is_whole" 1 F_is_whole := by
  exact calR_of (N := N_is_whole) (k := 0) (F := b_is_whole) M.d_is_whole sc_is_whole (by decide) (fun _ _ _ _ _ _ us hl => match us, hl with | [_], _ => rfl) (fun f cdv A outer s H E hr =>
      dss_one (ds_ret (dr_sh (de_and (de_isi M.n_isinstance (de_var 0) M.n_int PyProof.Rows.boot_int) (de_one (de_not (de_isi M.n_isinstance (de_var 0) M.n_bool PyProof.Rows.boot_bool)))))))

abbrev N_is_within : List Str := ["thing", "low", "high"]
theorem sc_is_within : FnScope N_is_within ["thing", "low", "high"] (defScope s_is_within) := ⟨rfl, rfl, rfl, by decide +kernel, rfl, by decide +kernel, by decide +kernel⟩
theorem ok_is_within (M : Tx K mg) : CalR P w K mg base 2 "is_within" 3 F_is_within := by
  have C_is_whole := ok_is_whole (P := P) (w := w) (base := base) M
  exact calR_of (N := N_is_within) (k := 1) (F := b_is_within) M.d_is_within sc_is_within (by decide) (fun _ _ _ _ _ _ us hl => match us, hl with | [_, _, _], _ => rfl) (fun f cdv A outer s H E hr =>
      dss_one (ds_ret (dr_sh (de_and (de_fz (dr_fn C_is_whole hr (da_cons (de_var 0) (da_nil)))) (de_one (de_leLe hr (de_var 1) (de_var 0) (de_var 2)))))))

abbrev N_is_pair : List Str := ["thing"]
theorem sc_is_pair : FnScope N_is_pair ["thing"] (defScope s_is_pair) := ⟨rfl, rfl, rfl, by decide +kernel, rfl, by decide +kernel, by decide +kernel⟩
theorem ok_is_pair (M : Tx K mg) : CalR P w K mg base 1 "is_pair" 1 F_is_pair := by
  exact calR_of (N := N_is_pair) (k := 0) (F := b_is_pair) M.d_is_pair sc_is_pair (by decide) (fun _ _ _ _ _ _ us hl => match us, hl with | [_], _ => rfl) (fun f cdv A outer s H E hr =>
      dss_one (ds_ret (dr_sh (de_and (de_isi M.n_isinstance (de_var 0) M.n_tuple PyProof.Rows.boot_tuple) (de_one (de_eq hr (de_fz (dr_len M.n_len (da_cons (de_var 0) (da_nil)))) (de_int)))))))

abbrev N_is_hand : List Str := ["thing", "one"]
theorem sc_is_hand : FnScope N_is_hand ["thing"] (defScope s_is_hand) := ⟨rfl, rfl, rfl, by decide +kernel, rfl, by decide +kernel, by decide +kernel⟩
theorem ok_is_hand (M : Tx K mg) : CalR P w K mg base 3 "is_hand" 1 F_is_hand := by
  have C_is_pair := ok_is_pair (P := P) (w := w) (base := base) M
  have C_is_within := ok_is_within (P := P) (w := w) (base := base) M
  exact calR_of (N := N_is_hand) (k := 2) (F := b_is_hand) M.d_is_hand sc_is_hand (by decide) (fun _ _ _ _ _ _ us hl => match us, hl with | [_], _ => rfl) (fun f cdv A outer s H E hr =>
      dss_cons (ds_if (dt_w (dw_or (dt_not (dt_val (de_fz (dr_fn C_is_pair hr (da_cons (de_var 0) (da_nil)))))) (dw_or (dt_not (dt_val (de_fz (dr_fn C_is_within hr (da_cons (de_ix (de_var 0) (de_int)) (da_cons (de_int) (da_cons (de_gint M.c_MOST_SLACK) (da_nil)))))))) (dw_or1 (dt_not (dt_val (de_fz (dr_fn C_is_pair hr (da_cons (de_ix (de_var 0) (de_int)) (da_nil)))))))))) (dss_one (ds_ret (dr_sh (de_bl)))) (dss_nil))
      (dss_one (ds_ret (dr_all M.n_all (da_cons (de_fz (dr_lc sc_is_hand.nd (di_seq (de_ix (de_var 0) (de_int))) (blkOk_by (own := [("one", 1)]) (N := N_is_hand) (sc := defScope s_is_hand) (by decide +kernel)) (fun _ _ _ _ _ => dg_name 1 sc_is_hand.nd) (fun _ _ _ _ _ => dts_nil) (fun _ _ _ _ _ => de_fz (dr_fn C_is_within hr (da_cons (de_var 1) (da_cons (de_sub (de_int) (de_gint M.c_MOST_LEAD)) (da_cons (de_gint M.c_MOST_LEAD) (da_nil)))))))) (da_nil))))))

abbrev N_is_pen : List Str := ["thing", "across", "along", "other", "far", "one"]
theorem sc_is_pen : FnScope N_is_pen ["thing"] (defScope s_is_pen) := ⟨rfl, rfl, rfl, by decide +kernel, rfl, by decide +kernel, by decide +kernel⟩
theorem ok_is_pen (M : Tx K mg) : CalR P w K mg base 4 "is_pen" 1 F_is_pen := by
  have C_is_pair := ok_is_pair (P := P) (w := w) (base := base) M
  have C_is_hand := ok_is_hand (P := P) (w := w) (base := base) M
  exact calR_of (N := N_is_pen) (k := 3) (F := b_is_pen) M.d_is_pen sc_is_pen (by decide) (fun _ _ _ _ _ _ us hl => match us, hl with | [_], _ => rfl) (fun f cdv A outer s H E hr =>
      dss_cons (ds_if (dt_w (dw_or (dt_not (dt_val (de_fz (dr_fn C_is_pair hr (da_cons (de_var 0) (da_nil)))))) (dw_or1 (dt_not (dt_val (de_fz (dr_all M.n_all (da_cons (de_fz (dr_lc sc_is_pen.nd (di_seq (de_var 0)) (blkOk_by (own := [("one", 5)]) (N := N_is_pen) (sc := defScope s_is_pen) (by decide +kernel)) (fun _ _ _ _ _ => dg_name 5 sc_is_pen.nd) (fun _ _ _ _ _ => dts_nil) (fun _ _ _ _ _ => de_fz (dr_fn C_is_hand hr (da_cons (de_var 5) (da_nil)))))) (da_nil))))))))) (dss_one (ds_ret (dr_sh (de_bl)))) (dss_nil))
      (dss_cons (ds_asg (de_tup (da_cons (de_ix (de_ix (de_var 0) (de_int)) (de_int)) (da_cons (de_ix (de_ix (de_var 0) (de_int)) (de_int)) (da_nil)))) (dg_tup (dgs_cons (dg_tup (dgs_cons (dg_name 1 sc_is_pen.nd) (dgs_cons (dg_name 2 sc_is_pen.nd) (dgs_nil)))) (dgs_cons (dg_tup (dgs_cons (dg_name 3 sc_is_pen.nd) (dgs_cons (dg_name 4 sc_is_pen.nd) (dgs_nil)))) (dgs_nil)))))
      (dss_one (ds_ret (dr_sh (de_ne hr (de_mul (de_var 1) (de_var 4)) (de_mul (de_var 2) (de_var 3))))))))

abbrev N_is_stand : List Str := ["pen", "thing", "one", "hand"]
theorem sc_is_stand : FnScope N_is_stand ["pen", "thing"] (defScope s_is_stand) := ⟨rfl, rfl, rfl, by decide +kernel, rfl, by decide +kernel, by decide +kernel⟩
theorem ok_is_stand (M : Tx K mg) : CalR P w K mg base 3 "is_stand" 2 F_is_stand := by
  have C_is_pair := ok_is_pair (P := P) (w := w) (base := base) M
  have C_is_within := ok_is_within (P := P) (w := w) (base := base) M
  exact calR_of (N := N_is_stand) (k := 2) (F := b_is_stand) M.d_is_stand sc_is_stand (by decide) (fun _ _ _ _ _ _ us hl => match us, hl with | [_, _], _ => rfl) (fun f cdv A outer s H E hr =>
      dss_cons (ds_if (dt_w (dw_or (dt_not (dt_val (de_fz (dr_fn C_is_pair hr (da_cons (de_var 1) (da_nil)))))) (dw_or1 (dt_not (dt_val (de_fz (dr_all M.n_all (da_cons (de_fz (dr_lc sc_is_stand.nd (di_seq (de_var 1)) (blkOk_by (own := [("one", 2)]) (N := N_is_stand) (sc := defScope s_is_stand) (by decide +kernel)) (fun _ _ _ _ _ => dg_name 2 sc_is_stand.nd) (fun _ _ _ _ _ => dts_nil) (fun _ _ _ _ _ => de_fz (dr_fn C_is_pair hr (da_cons (de_var 2) (da_nil)))))) (da_nil))))))))) (dss_one (ds_ret (dr_sh (de_bl)))) (dss_nil))
      (dss_cons (ds_if (dt_not (dt_val (de_fz (dr_all M.n_all (da_cons (de_fz (dr_lc sc_is_stand.nd (di_seq (de_ix (de_var 1) (de_int))) (blkOk_by (own := [("one", 2)]) (N := N_is_stand) (sc := defScope s_is_stand) (by decide +kernel)) (fun _ _ _ _ _ => dg_name 2 sc_is_stand.nd) (fun _ _ _ _ _ => dts_nil) (fun _ _ _ _ _ => de_fz (dr_fn C_is_within hr (da_cons (de_var 2) (da_cons (de_sub (de_int) (de_gint M.c_MOST_GEAR)) (da_cons (de_gint M.c_MOST_GEAR) (da_nil)))))))) (da_nil)))))) (dss_one (ds_ret (dr_sh (de_bl)))) (dss_nil))
      (dss_one (ds_ret (dr_all M.n_all (da_cons (de_fz (dr_lc sc_is_stand.nd (di_zip M.n_zip (da_cons (de_ix (de_var 1) (de_int)) (da_cons (de_var 0) (da_nil)))) (blkOk_by (own := [("one", 2), ("hand", 3)]) (N := N_is_stand) (sc := defScope s_is_stand) (by decide +kernel)) (fun _ _ _ _ _ => dg_tup (dgs_cons (dg_name 2 sc_is_stand.nd) (dgs_cons (dg_name 3 sc_is_stand.nd) (dgs_nil)))) (fun _ _ _ _ _ => dts_nil) (fun _ _ _ _ _ => de_fz (dr_fn C_is_within hr (da_cons (de_var 2) (da_cons (de_int) (da_cons (de_ix (de_var 3) (de_int)) (da_nil)))))))) (da_nil)))))))

abbrev N_is_turn : List Str := ["thing"]
theorem sc_is_turn : FnScope N_is_turn ["thing"] (defScope s_is_turn) := ⟨rfl, rfl, rfl, by decide +kernel, rfl, by decide +kernel, by decide +kernel⟩
theorem ok_is_turn (M : Tx K mg) : CalR P w K mg base 3 "is_turn" 1 F_is_turn := by
  have C_is_within := ok_is_within (P := P) (w := w) (base := base) M
  exact calR_of (N := N_is_turn) (k := 2) (F := b_is_turn) M.d_is_turn sc_is_turn (by decide) (fun _ _ _ _ _ _ us hl => match us, hl with | [_], _ => rfl) (fun f cdv A outer s H E hr =>
      dss_cons (ds_if (dt_w (dw_or (dt_not (dt_val (de_isi M.n_isinstance (de_var 0) M.n_tuple PyProof.Rows.boot_tuple))) (dw_or (dt_ne hr (de_fz (dr_len M.n_len (da_cons (de_var 0) (da_nil)))) (de_int)) (dw_or1 (dt_not (dt_val (de_fz (dr_fn C_is_within hr (da_cons (de_ix (de_var 0) (de_int)) (da_cons (de_int) (da_cons (de_int) (da_nil)))))))))))) (dss_one (ds_ret (dr_sh (de_bl)))) (dss_nil))
      (dss_one (ds_ret (dr_sh (de_and (de_fz (dr_fn C_is_within hr (da_cons (de_ix (de_var 0) (de_int)) (da_cons (de_sub (de_int) (de_gint M.c_MOST_TURN)) (da_cons (de_gint M.c_MOST_TURN) (da_nil)))))) (de_one (de_isi M.n_isinstance (de_ix (de_var 0) (de_int)) M.n_bool PyProof.Rows.boot_bool)))))))

abbrev N_is_row : List Str := ["thing", "one"]
theorem sc_is_row : FnScope N_is_row ["thing"] (defScope s_is_row) := ⟨rfl, rfl, rfl, by decide +kernel, rfl, by decide +kernel, by decide +kernel⟩
theorem ok_is_row (M : Tx K mg) : CalR P w K mg base 4 "is_row" 1 F_is_row := by
  have C_is_turn := ok_is_turn (P := P) (w := w) (base := base) M
  exact calR_of (N := N_is_row) (k := 3) (F := b_is_row) M.d_is_row sc_is_row (by decide) (fun _ _ _ _ _ _ us hl => match us, hl with | [_], _ => rfl) (fun f cdv A outer s H E hr =>
      dss_one (ds_ret (dr_sh (de_and (de_isi M.n_isinstance (de_var 0) M.n_list PyProof.Rows.boot_list) (de_and (de_le hr (de_fz (dr_len M.n_len (da_cons (de_var 0) (da_nil)))) (de_gint M.c_MOST_ROW)) (de_one (de_fz (dr_all M.n_all (da_cons (de_fz (dr_lc sc_is_row.nd (di_seq (de_var 0)) (blkOk_by (own := [("one", 1)]) (N := N_is_row) (sc := defScope s_is_row) (by decide +kernel)) (fun _ _ _ _ _ => dg_name 1 sc_is_row.nd) (fun _ _ _ _ _ => dts_nil) (fun _ _ _ _ _ => de_fz (dr_fn C_is_turn hr (da_cons (de_var 1) (da_nil)))))) (da_nil))))))))))

abbrev N_look_at_pen : List Str := ["pen", "stand"]
theorem sc_look_at_pen : FnScope N_look_at_pen ["pen", "stand"] (defScope s_look_at_pen) := ⟨rfl, rfl, rfl, by decide +kernel, rfl, by decide +kernel, by decide +kernel⟩
theorem ok_look_at_pen (M : Tx K mg) : CalR P w K mg base 5 "look_at_pen" 2 F_look_at_pen := by
  have C_is_pen := ok_is_pen (P := P) (w := w) (base := base) M
  have C_is_stand := ok_is_stand (P := P) (w := w) (base := base) M
  exact calR_of (N := N_look_at_pen) (k := 4) (F := b_look_at_pen) M.d_look_at_pen sc_look_at_pen (by decide) (fun _ _ _ _ _ _ us hl => match us, hl with | [_, _], _ => rfl) (fun f cdv A outer s H E hr =>
      dss_cons (ds_if (dt_not (dt_val (de_fz (dr_fn C_is_pen hr (da_cons (de_var 0) (da_nil)))))) (dss_one (ds_nev)) (dss_nil))
      (dss_one (ds_if (dt_not (dt_val (de_fz (dr_fn C_is_stand hr (da_cons (de_var 0) (da_cons (de_var 1) (da_nil))))))) (dss_one (ds_nev)) (dss_nil))))

abbrev N_look_at_row : List Str := ["pen", "stand", "row"]
theorem sc_look_at_row : FnScope N_look_at_row ["pen", "stand", "row"] (defScope s_look_at_row) := ⟨rfl, rfl, rfl, by decide +kernel, rfl, by decide +kernel, by decide +kernel⟩
theorem ok_look_at_row (M : Tx K mg) : CalR P w K mg base 6 "look_at_row" 3 F_look_at_row := by
  have C_look_at_pen := ok_look_at_pen (P := P) (w := w) (base := base) M
  have C_is_row := ok_is_row (P := P) (w := w) (base := base) M
  exact calR_of (N := N_look_at_row) (k := 5) (F := b_look_at_row) M.d_look_at_row sc_look_at_row (by decide) (fun _ _ _ _ _ _ us hl => match us, hl with | [_, _, _], _ => rfl) (fun f cdv A outer s H E hr =>
      dss_cons (ds_drop (de_fz (dr_fn C_look_at_pen hr (da_cons (de_var 0) (da_cons (de_var 1) (da_nil))))))
      (dss_one (ds_if (dt_not (dt_val (de_fz (dr_fn C_is_row hr (da_cons (de_var 2) (da_nil)))))) (dss_one (ds_nev)) (dss_nil))))

abbrev N_turned_so : List Str := ["slack", "off", "turns", "there"]
theorem sc_turned_so : FnScope N_turned_so ["slack", "off", "turns"] (defScope s_turned_so) := ⟨rfl, rfl, rfl, by decide +kernel, rfl, by decide +kernel, by decide +kernel⟩
theorem ok_turned_so (M : Tx K mg) : CalR P w K mg base 1 "turned_so" 3 F_turned_so := by
  exact calR_of (N := N_turned_so) (k := 0) (F := b_turned_so) M.d_turned_so sc_turned_so (by decide) (fun _ _ _ _ _ _ us hl => match us, hl with | [_, _, _], _ => rfl) (fun f cdv A outer s H E hr =>
      dss_cons (ds_set 3 sc_turned_so.nd (dr_sh (de_add (de_var 1) (de_var 2))))
      (dss_cons (ds_if (dt_gt hr (de_var 3) (de_var 0)) (dss_one (ds_ret (dr_sh (de_tup (da_cons (de_sub (de_var 3) (de_var 0)) (da_cons (de_var 0) (da_nil))))))) (dss_nil))
      (dss_one (ds_ret (dr_sh (de_if (dt_lt hr (de_var 3) (de_int)) (de_tup (da_cons (de_var 3) (da_cons (de_int) (da_nil)))) (de_tup (da_cons (de_int) (da_cons (de_var 3) (da_nil))))))))))

abbrev N_put : List Str := ["pair", "place", "thing"]
theorem sc_put : FnScope N_put ["pair", "place", "thing"] (defScope s_put) := ⟨rfl, rfl, rfl, by decide +kernel, rfl, by decide +kernel, by decide +kernel⟩
theorem ok_put (M : Tx K mg) : CalR P w K mg base 1 "put" 3 F_put := by
  exact calR_of (N := N_put) (k := 0) (F := b_put) M.d_put sc_put (by decide) (fun _ _ _ _ _ _ us hl => match us, hl with | [_, _, _], _ => rfl) (fun f cdv A outer s H E hr =>
      dss_one (ds_ret (dr_sh (de_if (dt_eq hr (de_var 1) (de_int)) (de_tup (da_cons (de_var 2) (da_cons (de_ix (de_var 0) (de_int)) (da_nil)))) (de_tup (da_cons (de_ix (de_var 0) (de_int)) (da_cons (de_var 2) (da_nil))))))))

abbrev N_turned : List Str := ["pen", "stand", "hand", "turns", "gears", "offs", "moved", "off"]
theorem sc_turned : FnScope N_turned ["pen", "stand", "hand", "turns"] (defScope s_turned) := ⟨rfl, rfl, rfl, by decide +kernel, rfl, by decide +kernel, by decide +kernel⟩
theorem ok_turned (M : Tx K mg) : CalR P w K mg base 2 "turned" 4 F_turned := by
  have C_turned_so := ok_turned_so (P := P) (w := w) (base := base) M
  have C_put := ok_put (P := P) (w := w) (base := base) M
  exact calR_of (N := N_turned) (k := 1) (F := b_turned) M.d_turned sc_turned (by decide) (fun _ _ _ _ _ _ us hl => match us, hl with | [_, _, _, _], _ => rfl) (fun f cdv A outer s H E hr =>
      dss_cons (ds_asg (de_var 1) (dg_tup (dgs_cons (dg_name 4 sc_turned.nd) (dgs_cons (dg_name 5 sc_turned.nd) (dgs_nil)))))
      (dss_cons (ds_asg (de_fz (dr_fn C_turned_so hr (da_cons (de_ix (de_ix (de_var 0) (de_var 2)) (de_int)) (da_cons (de_ix (de_var 5) (de_var 2)) (da_cons (de_var 3) (da_nil)))))) (dg_tup (dgs_cons (dg_name 6 sc_turned.nd) (dgs_cons (dg_name 7 sc_turned.nd) (dgs_nil)))))
      (dss_one (ds_ret (dr_sh (de_tup (da_cons (de_fz (dr_fn C_put hr (da_cons (de_var 4) (da_cons (de_var 2) (da_cons (de_add (de_ix (de_var 4) (de_var 2)) (de_var 6)) (da_nil)))))) (da_cons (de_fz (dr_fn C_put hr (da_cons (de_var 5) (da_cons (de_var 2) (da_cons (de_var 7) (da_nil)))))) (da_nil)))))))))

abbrev N_behind : List Str := ["pen", "stand", "row", "hand", "turns", "down"]
theorem sc_behind : FnScope N_behind ["pen", "stand", "row"] (defScope s_behind) := ⟨rfl, rfl, rfl, by decide +kernel, rfl, by decide +kernel, by decide +kernel⟩
theorem ok_behind (M : Tx K mg) : CalR P w K mg base 7 "behind" 3 F_behind := by
  have C_look_at_row := ok_look_at_row (P := P) (w := w) (base := base) M
  have C_turned := ok_turned (P := P) (w := w) (base := base) M
  exact calR_of (N := N_behind) (k := 6) (F := b_behind) M.d_behind sc_behind (by decide) (fun _ _ _ _ _ _ us hl => match us, hl with | [_, _, _], _ => rfl) (fun f cdv A outer s H E hr =>
      dss_cons (ds_drop (de_fz (dr_fn C_look_at_row hr (da_cons (de_var 0) (da_cons (de_var 1) (da_cons (de_var 2) (da_nil)))))))
      (dss_cons (ds_for (di_seq (de_var 2)) (dg_tup (dgs_cons (dg_name 3 sc_behind.nd) (dgs_cons (dg_name 4 sc_behind.nd) (dgs_cons (dg_name 5 sc_behind.nd) (dgs_nil))))) (dss_one (ds_set 1 sc_behind.nd (dr_fn C_turned hr (da_cons (de_var 0) (da_cons (de_var 1) (da_cons (de_var 3) (da_cons (de_var 4) (da_nil)))))))))
      (dss_one (ds_ret (dr_sh (de_var 1))))))

abbrev N_joined : List Str := ["strokes", "found", "low", "high"]
theorem sc_joined : FnScope N_joined ["strokes"] (defScope s_joined) := ⟨rfl, rfl, rfl, by decide +kernel, rfl, by decide +kernel, by decide +kernel⟩
theorem ok_joined (M : Tx K mg) : CalR P w K mg base 1 "joined" 1 F_joined := by
  exact calR_of (N := N_joined) (k := 0) (F := b_joined) M.d_joined sc_joined (by decide) (fun _ _ _ _ _ _ us hl => match us, hl with | [_], _ => rfl) (fun f cdv A outer s H E hr =>
      dss_cons (ds_set 1 sc_joined.nd (dr_lst (da_nil)))
      (dss_cons (ds_for (di_seq (de_fz (dr_sortP hr M.n_sorted (de_var 0)))) (dg_tup (dgs_cons (dg_name 2 sc_joined.nd) (dgs_cons (dg_name 3 sc_joined.nd) (dgs_nil)))) (dss_one (ds_if (dt_w (dw_and (dt_lend (dt_ne hr (de_var 1) (de_fz (dr_lst (da_nil))))) (dw_and1 (dt_le hr (de_var 2) (de_ix (de_ixO 1 (de_neg (de_int))) (de_int)))))) (dss_one (ds_put 1 (de_tup (da_cons (de_ix (de_ixO 1 (de_neg (de_int))) (de_int)) (da_cons (de_fz (dr_max M.n_max (da_cons (de_ix (de_ixO 1 (de_neg (de_int))) (de_int)) (da_cons (de_var 3) (da_nil))))) (da_nil)))) (de_neg (de_int)))) (dss_one (ds_append 1 (de_tup (da_cons (de_var 2) (da_cons (de_var 3) (da_nil)))))))))
      (dss_one (ds_ret (dr_give 1)))))

abbrev N_strokes_of : List Str := ["lines", "found", "hand", "across", "low", "high"]
theorem sc_strokes_of : FnScope N_strokes_of ["lines"] (defScope s_strokes_of) := ⟨rfl, rfl, rfl, by decide +kernel, rfl, by decide +kernel, by decide +kernel⟩
theorem ok_strokes_of (M : Tx K mg) : CalK P w K mg base 2 "strokes_of" F_strokes_of := by
  have C_joined := ok_joined (P := P) (w := w) (base := base) M
  exact calK_of (N := N_strokes_of) (k := 1) (F := b_strokes_of) M.d_strokes_of sc_strokes_of (by decide) (fun _ _ _ _ _ _ us hl => match us, hl with | [_], _ => rfl) (fun f cdv A outer s H E hr =>
      dss_cons (ds_set 1 sc_strokes_of.nd (dr_lst (da_nil)))
      (dss_cons (ds_forSK 0 hr M.n_sorted (dgs_cons (dg_name 2 sc_strokes_of.nd) (dgs_cons (dg_name 3 sc_strokes_of.nd) (dgs_nil))) (dss_one (ds_extend 1 (de_fz (dr_lc sc_strokes_of.nd (di_seq (de_fz (dr_fn C_joined hr (da_cons (de_dget 0 hr (de_tup (da_cons (de_var 2) (da_cons (de_var 3) (da_nil))))) (da_nil))))) (blkOk_by (own := [("low", 4), ("high", 5)]) (N := N_strokes_of) (sc := defScope s_strokes_of) (by decide +kernel)) (fun _ _ _ _ _ => dg_tup (dgs_cons (dg_name 4 sc_strokes_of.nd) (dgs_cons (dg_name 5 sc_strokes_of.nd) (dgs_nil)))) (fun _ _ _ _ _ => dts_nil) (fun _ _ _ _ _ => de_tup (da_cons (de_var 2) (da_cons (de_var 3) (da_cons (de_var 4) (da_cons (de_var 5) (da_nil)))))))))))
      (dss_one (ds_ret (dr_tuple M.n_tuple (da_cons (de_var 1) (da_nil)))))))

abbrev N_drawing : List Str := ["pen", "stand", "row", "lines", "hand", "turns", "down", "later", "before", "after", "line"]
theorem sc_drawing : FnScope N_drawing ["pen", "stand", "row"] (defScope s_drawing) := ⟨rfl, rfl, rfl, by decide +kernel, rfl, by decide +kernel, by decide +kernel⟩
theorem ok_drawing (M : Tx K mg) : CalR P w K mg base 7 "drawing" 3 F_drawing := by
  have C_look_at_row := ok_look_at_row (P := P) (w := w) (base := base) M
  have C_strokes_of := ok_strokes_of (P := P) (w := w) (base := base) M
  have C_turned := ok_turned (P := P) (w := w) (base := base) M
  exact calR_of (N := N_drawing) (k := 6) (F := b_drawing) M.d_drawing sc_drawing (by decide) (fun _ _ _ _ _ _ us hl => match us, hl with | [_, _, _], _ => rfl) (fun f cdv A outer s H E hr =>
      dss_cons (ds_drop (de_fz (dr_fn C_look_at_row hr (da_cons (de_var 0) (da_cons (de_var 1) (da_cons (de_var 2) (da_nil)))))))
      (dss_cons (ds_set 3 sc_drawing.nd (dr_dnewT))
      (dss_lines 3 (di_seq (de_var 2)) (dg_tup (dgs_cons (dg_name 4 sc_drawing.nd) (dgs_cons (dg_name 5 sc_drawing.nd) (dgs_cons (dg_name 6 sc_drawing.nd) (dgs_nil))))) (dssg_cons (dsg_lift (ds_set 7 sc_drawing.nd (dr_fn C_turned hr (da_cons (de_var 0) (da_cons (de_var 1) (da_cons (de_var 4) (da_cons (de_var 5) (da_nil))))))))
      (dssg_cons (dsg_lift (ds_par2 8 9 sc_drawing.nd (dar_cons (dr_sh (de_ix (de_ix (de_var 1) (de_int)) (de_var 4))) (dar_cons (dr_sh (de_ix (de_ix (de_var 7) (de_int)) (de_var 4))) (dar_nil))) rfl))
      (dssg_cons (dsg_if (dt_w (dw_and (dt_val (de_var 6)) (dw_and1 (dt_ne hr (de_var 8) (de_var 9))))) (dssg_cons (dsg_lift (ds_set 10 sc_drawing.nd (dr_sh (de_tup (da_cons (de_var 4) (da_cons (de_ix (de_ix (de_var 1) (de_int)) (de_sub (de_int) (de_var 4))) (da_nil)))))))
      (dssg_one (dsg_app 3 hr (de_var 10) (de_tup (da_cons (de_fz (dr_min M.n_min (da_cons (de_var 8) (da_cons (de_var 9) (da_nil))))) (da_cons (de_fz (dr_max M.n_max (da_cons (de_var 8) (da_cons (de_var 9) (da_nil))))) (da_nil))))))) (dssg_nil))
      (dssg_one (dsg_lift (ds_set 1 sc_drawing.nd (dr_sh (de_var 7)))))))) C_strokes_of hr)))

abbrev N__law_well : List Str := ["cell", "turn"]
theorem sc__law_well : FnScope N__law_well ["cell", "turn"] (defScope s__law_well) := ⟨rfl, rfl, rfl, by decide +kernel, rfl, by decide +kernel, by decide +kernel⟩
theorem ok__law_well (M : Tx K mg) : CalR P w K mg base 1 "_law_well" 2 F__law_well := by
  exact calR_of (N := N__law_well) (k := 0) (F := b__law_well) M.d__law_well sc__law_well (by decide) (fun _ _ _ _ _ _ us hl => match us, hl with | [_, _], _ => rfl) (fun f cdv A outer s H E hr =>
      dss_cons (ds_if (dt_ge hr (de_var 0) (de_pow (de_int) (de_int))) (dss_one (ds_ret (dr_lst (da_cons (de_sub (de_var 0) (de_pow (de_int) (de_int))) (da_cons (de_mod (de_var 0) (de_int)) (da_cons (de_var 1) (da_nil))))))) (dss_nil))
      (dss_one (ds_ret (dr_lst (da_cons (de_int) (da_cons (de_mod (de_var 0) (de_int)) (da_cons (de_var 1) (da_nil))))))))

abbrev N__law_take : List Str := ["bag", "many", "p", "n", "found"]
theorem sc__law_take : FnScope N__law_take ["bag", "many"] (defScope s__law_take) := ⟨rfl, rfl, rfl, by decide +kernel, rfl, by decide +kernel, by decide +kernel⟩
theorem ok__law_take (M : Tx K mg) : CalB P w K mg base 1 "_law_take" 1 F__law_take := by
  exact calB_of (N := N__law_take) (k := 0) (n := 1) (F := b__law_take) M.d__law_take sc__law_take rfl (by decide) (fun _ _ _ _ _ _ us hl => match us, hl with | [_, _], _ => rfl) (fun f cdv A outer s H E hr =>
      dss_cons (ds_if (dt_gt hr (de_ixO 0 (de_int)) (de_int)) (dss_cons (ds_set 4 sc__law_take.nd (dr_sh (de_mod (de_ixO 0 (de_int)) (de_var 1))))
      (dss_cons (ds_put 0 (de_div (de_ixO 0 (de_int)) (de_var 1)) (de_int))
      (dss_one (ds_ret (dr_sh (de_var 4)))))) (dss_nil))
      (dss_cons (ds_put 0 (de_add (de_ixO 0 (de_int)) (de_int)) (de_int))
      (dss_cons (ds_set 2 sc__law_take.nd (dr_sh (de_int)))
      (dss_cons (ds_set 3 sc__law_take.nd (dr_sh (de_mod (de_add (de_ixO 0 (de_int)) (de_mul (de_int) (de_ixO 0 (de_int)))) (de_var 2))))
      (dss_cons (ds_set 3 sc__law_take.nd (dr_sh (de_mod (de_add (de_add (de_mul (de_var 3) (de_var 3)) (de_mul (de_int) (de_pow (de_ixO 0 (de_int)) (de_int)))) (de_int)) (de_var 2))))
      (dss_one (ds_ret (dr_sh (de_mod (de_div (de_mod (de_pow (de_var 3) (de_int)) (de_var 2)) (de_int)) (de_var 1))))))))))

abbrev N__law_bags : List Str := ["script", "most", "k", "cell"]
theorem sc__law_bags : FnScope N__law_bags ["script", "most"] (defScope s__law_bags) := ⟨rfl, rfl, rfl, by decide +kernel, rfl, by decide +kernel, by decide +kernel⟩
theorem ok__law_bags (M : Tx K mg) : CalBags P w K mg base 2 := by
  have C__law_well := ok__law_well (P := P) (w := w) (base := base) M
  obtain ⟨f, fd, D, g⟩ := M.d__law_bags.ex
  refine ⟨f, fd, ["script", "most"], D.ok sc__law_bags (fun vs H Q E h => ?_) (fun cdv A outer s H vs Q E hr h => ?_), g, D.kp, D.bindsN (fun _ _ _ _ _ _ us hl => match us, hl with | [_, _], _ => rfl)⟩
  · obtain ⟨a, ns, m, rfl, _⟩ := h
    rfl
  · exact ⟨_, PSs.nox (pss_one (ps_ret (pe_lc (own := [("k", 2), ("cell", 3)]) rfl sc__law_bags.nd (pi_enum rfl M.n_enumerate (pa_cons (pe_op op_cat (pe_slice sl_list (pe_var (i := 0) rfl (Or.inl rfl) (by decide) (by decide)) po_none (po_some (pe_var (i := 1) rfl (Or.inl rfl) (by decide) (by decide)))) (pe_lst (pa_cons pe_int pa_nil))) pa_nil))
      (blkOk_by (N := N__law_bags) (sc := defScope s__law_bags) (by decide +kernel)) (fun _ _ _ _ _ => pg_tup rfl (pgs_cons (pg_name sc__law_bags.nd rfl (by first | exact Or.inl rfl | exact Or.inr rfl) (by first | exact .inl rfl | exact .inr rfl)) (pgs_cons (pg_name sc__law_bags.nd rfl (by first | exact Or.inl rfl | exact Or.inr rfl) (by first | exact .inl rfl | exact .inr rfl)) pgs_nil))) (fun _ _ _ _ _ => pts_nil) (fun _ _ _ _ _ => dr_fn C__law_well hr (da_cons (de_var 3) (da_cons (de_mul de_int (de_var 2)) da_nil)))))), bags_reading rfl well_bag h⟩

abbrev N__law_same : List Str := ["a", "b", "x", "y"]
theorem sc__law_same : FnScope N__law_same ["a", "b"] (defScope s__law_same) := ⟨rfl, rfl, rfl, by decide +kernel, rfl, by decide +kernel, by decide +kernel⟩
theorem okn__law_same (M : Tx K mg) : ∀ n, CalR P w K mg base (0 + n) "_law_same" 2 (F__law_same n)
  | 0 => calR_none (k := 0) (ps := ["a", "b"]) M.d__law_same (fun _ _ _ _ _ _ us hl => match us, hl with | [_, _], _ => rfl)
  | n + 1 => by
    have C__law_same := okn__law_same M n
    exact calR_of (N := N__law_same) (k := 0 + n) (F := b__law_same (F__law_same n)) M.d__law_same sc__law_same (by decide) (fun _ _ _ _ _ _ us hl => match us, hl with | [_, _], _ => rfl) (fun f cdv A outer s H E hr =>
      dss_cons (ds_if (dt_w (dw_or (dt_w (dw_and (dt_val (de_isi M.n_isinstance (de_var 0) M.n_list PyProof.Rows.boot_list)) (dw_and1 (dt_val (de_isi M.n_isinstance (de_var 1) M.n_list PyProof.Rows.boot_list))))) (dw_or1 (dt_w (dw_and (dt_val (de_isi M.n_isinstance (de_var 0) M.n_tuple PyProof.Rows.boot_tuple)) (dw_and1 (dt_val (de_isi M.n_isinstance (de_var 1) M.n_tuple PyProof.Rows.boot_tuple)))))))) (dss_one (ds_ret (dr_sh (de_and (de_eq hr (de_fz (dr_len M.n_len (da_cons (de_var 0) (da_nil)))) (de_fz (dr_len M.n_len (da_cons (de_var 1) (da_nil))))) (de_one (de_fz (dr_all M.n_all (da_cons (de_fz (dr_lc sc__law_same.nd (di_zip M.n_zip (da_cons (de_var 0) (da_cons (de_var 1) (da_nil)))) (blkOk_by (own := [("x", 2), ("y", 3)]) (N := N__law_same) (sc := defScope s__law_same) (by decide +kernel)) (fun _ _ _ _ _ => dg_tup (dgs_cons (dg_name 2 sc__law_same.nd) (dgs_cons (dg_name 3 sc__law_same.nd) (dgs_nil)))) (fun _ _ _ _ _ => dts_nil) (fun _ _ _ _ _ => de_fz (dr_fn C__law_same hr (da_cons (de_var 2) (da_cons (de_var 3) (da_nil))) (Nat.le_refl _))))) (da_nil))))))))) (dss_nil))
      (dss_cons (ds_if (dt_w (dw_or (dt_val (de_isiT M.n_isinstance (de_var 0) (pa_ty M.n_bool PyProof.Rows.boot_bool (pa_ty M.n_list PyProof.Rows.boot_list (pa_ty M.n_tuple PyProof.Rows.boot_tuple (pa_ty0)))))) (dw_or1 (dt_val (de_isiT M.n_isinstance (de_var 1) (pa_ty M.n_bool PyProof.Rows.boot_bool (pa_ty M.n_list PyProof.Rows.boot_list (pa_ty M.n_tuple PyProof.Rows.boot_tuple (pa_ty0))))))))) (dss_one (ds_ret (dr_sh (de_and (de_isi M.n_isinstance (de_var 0) M.n_bool PyProof.Rows.boot_bool) (de_and (de_isi M.n_isinstance (de_var 1) M.n_bool PyProof.Rows.boot_bool) (de_one (de_eq hr (de_var 0) (de_var 1)))))))) (dss_nil))
      (dss_cons (ds_if (dt_w (dw_or (dt_val (de_isi M.n_isinstance (de_var 0) M.n_int PyProof.Rows.boot_int)) (dw_or1 (dt_val (de_isi M.n_isinstance (de_var 1) M.n_int PyProof.Rows.boot_int))))) (dss_one (ds_ret (dr_sh (de_and (de_isi M.n_isinstance (de_var 0) M.n_int PyProof.Rows.boot_int) (de_and (de_isi M.n_isinstance (de_var 1) M.n_int PyProof.Rows.boot_int) (de_one (de_eq hr (de_var 0) (de_var 1)))))))) (dss_nil))
      (dss_cons (ds_if (dt_w (dw_or (dt_val (de_isi M.n_isinstance (de_var 0) M.n_str PyProof.Rows.boot_str)) (dw_or1 (dt_val (de_isi M.n_isinstance (de_var 1) M.n_str PyProof.Rows.boot_str))))) (dss_one (ds_ret (dr_sh (de_and (de_isi M.n_isinstance (de_var 0) M.n_str PyProof.Rows.boot_str) (de_and (de_isi M.n_isinstance (de_var 1) M.n_str PyProof.Rows.boot_str) (de_one (de_eq hr (de_var 0) (de_var 1)))))))) (dss_nil))
      (dss_one (ds_ret (dr_sh (de_and (de_isN (de_var 0)) (de_one (de_isN (de_var 1)))))))))))
theorem ok__law_same (M : Tx K mg) : CalR P w K mg base 8 "_law_same" 2 (F__law_same 8) := okn__law_same M 8

abbrev N__law_lead : List Str := ["bag"]
theorem sc__law_lead : FnScope N__law_lead ["bag"] (defScope s__law_lead) := ⟨rfl, rfl, rfl, by decide +kernel, rfl, by decide +kernel, by decide +kernel⟩
theorem ok__law_lead (M : Tx K mg) : CalB P w K mg base 2 "_law_lead" 0 F__law_lead := by
  have C__law_take := ok__law_take (P := P) (w := w) (base := base) M
  exact calB_of (N := N__law_lead) (k := 1) (n := 0) (F := b__law_lead) M.d__law_lead sc__law_lead rfl (by decide) (fun _ _ _ _ _ _ us hl => match us, hl with | [_], _ => rfl) (fun f cdv A outer s H E hr =>
      dss_one (ds_ret (dr_sh (de_tup (da_cons (de_sub (de_fz (dr_fnB 0 C__law_take hr (da_cons (de_int) (da_nil)))) (de_int)) (da_cons (de_sub (de_fz (dr_fnB 0 C__law_take hr (da_cons (de_int) (da_nil)))) (de_int)) (da_nil)))))))

abbrev N__law_pen : List Str := ["bag", "most", "leads1", "lead"]
theorem sc__law_pen : FnScope N__law_pen ["bag", "most"] (defScope s__law_pen) := ⟨rfl, rfl, rfl, by decide +kernel, rfl, by decide +kernel, by decide +kernel⟩
theorem ok__law_pen (M : Tx K mg) : CalB P w K mg base 3 "_law_pen" 1 F__law_pen := by
  have C__law_lead := ok__law_lead (P := P) (w := w) (base := base) M
  have C__law_take := ok__law_take (P := P) (w := w) (base := base) M
  exact calB_of (N := N__law_pen) (k := 2) (n := 1) (F := b__law_pen) M.d__law_pen sc__law_pen rfl (by decide) (fun _ _ _ _ _ _ us hl => match us, hl with | [_, _], _ => rfl) (fun f cdv A outer s H E hr =>
      dss_cons (ds_set 2 sc__law_pen.nd (dr_lst (da_cons (de_fz (dr_fnB 0 C__law_lead hr (da_nil))) (da_cons (de_fz (dr_fnB 0 C__law_lead hr (da_nil))) (da_nil)))))
      (dss_cons (ds_if (dt_eq hr (de_mul (de_ix (de_ix (de_var 2) (de_int)) (de_int)) (de_ix (de_ix (de_var 2) (de_int)) (de_int))) (de_mul (de_ix (de_ix (de_var 2) (de_int)) (de_int)) (de_ix (de_ix (de_var 2) (de_int)) (de_int)))) (dss_one (ds_set 2 sc__law_pen.nd (dr_lst (da_cons (de_tup (da_cons (de_int) (da_cons (de_int) (da_nil)))) (da_cons (de_tup (da_cons (de_int) (da_cons (de_int) (da_nil)))) (da_nil)))))) (dss_nil))
      (dss_one (ds_ret (dr_tuple M.n_tuple (da_cons (de_fz (dr_lc sc__law_pen.nd (di_seq (de_var 2)) (blkOk_by (own := [("lead", 3)]) (N := N__law_pen) (sc := defScope s__law_pen) (by decide +kernel)) (fun _ _ _ _ _ => dg_name 3 sc__law_pen.nd) (fun _ _ _ _ _ => dts_nil) (fun _ _ _ _ _ => de_tup (da_cons (de_fz (dr_fnB 0 C__law_take hr (da_cons (de_add (de_var 1) (de_int)) (da_nil)))) (da_cons (de_var 3) (da_nil)))))) (da_nil)))))))

abbrev N__law_stand : List Str := ["bag", "pen", "far", "gears", "hand"]
theorem sc__law_stand : FnScope N__law_stand ["bag", "pen", "far"] (defScope s__law_stand) := ⟨rfl, rfl, rfl, by decide +kernel, rfl, by decide +kernel, by decide +kernel⟩
theorem ok__law_stand (M : Tx K mg) : CalB P w K mg base 2 "_law_stand" 2 F__law_stand := by
  have C__law_take := ok__law_take (P := P) (w := w) (base := base) M
  exact calB_of (N := N__law_stand) (k := 1) (n := 2) (F := b__law_stand) M.d__law_stand sc__law_stand rfl (by decide) (fun _ _ _ _ _ _ us hl => match us, hl with | [_, _, _], _ => rfl) (fun f cdv A outer s H E hr =>
      dss_cons (ds_set 3 sc__law_stand.nd (dr_tuple M.n_tuple (da_cons (de_fz (dr_lc sc__law_stand.nd (di_seq (de_var 1)) (blkOk_by (own := [("hand", 4)]) (N := N__law_stand) (sc := defScope s__law_stand) (by decide +kernel)) (fun _ _ _ _ _ => dg_name 4 sc__law_stand.nd) (fun _ _ _ _ _ => dts_nil) (fun _ _ _ _ _ => de_sub (de_fz (dr_fnB 0 C__law_take hr (da_cons (de_add (de_mul (de_int) (de_var 2)) (de_int)) (da_nil)))) (de_var 2)))) (da_nil))))
      (dss_one (ds_ret (dr_sh (de_tup (da_cons (de_var 3) (da_cons (de_fz (dr_tuple M.n_tuple (da_cons (de_fz (dr_lc sc__law_stand.nd (di_seq (de_var 1)) (blkOk_by (own := [("hand", 4)]) (N := N__law_stand) (sc := defScope s__law_stand) (by decide +kernel)) (fun _ _ _ _ _ => dg_name 4 sc__law_stand.nd) (fun _ _ _ _ _ => dts_nil) (fun _ _ _ _ _ => de_fz (dr_fnB 0 C__law_take hr (da_cons (de_add (de_ix (de_var 4) (de_int)) (de_int)) (da_nil)))))) (da_nil)))) (da_nil))))))))

abbrev N__law_row : List Str := ["bag", "most", "far", "found", "turn", "wide"]
theorem sc__law_row : FnScope N__law_row ["bag", "most", "far"] (defScope s__law_row) := ⟨rfl, rfl, rfl, by decide +kernel, rfl, by decide +kernel, by decide +kernel⟩
theorem ok__law_row (M : Tx K mg) : CalB P w K mg base 2 "_law_row" 2 F__law_row := by
  have C__law_take := ok__law_take (P := P) (w := w) (base := base) M
  exact calB_of (N := N__law_row) (k := 1) (n := 2) (F := b__law_row) M.d__law_row sc__law_row rfl (by decide) (fun _ _ _ _ _ _ us hl => match us, hl with | [_, _, _], _ => rfl) (fun f cdv A outer s H E hr =>
      dss_cons (ds_set 3 sc__law_row.nd (dr_lst (da_nil)))
      (dss_cons (ds_for (di_rg1 M.n_range (da_cons (de_fz (dr_fnB 0 C__law_take hr (da_cons (de_add (de_var 1) (de_int)) (da_nil)))) (da_nil))) (dg_name 4 sc__law_row.nd) (dss_cons (ds_set 5 sc__law_row.nd (dr_sh (de_ix (de_fz (dr_lst (da_cons (de_var 2) (da_cons (de_int) (da_cons (de_int) (da_nil)))))) (de_fz (dr_fnB 0 C__law_take hr (da_cons (de_int) (da_nil)))))))
      (dss_one (ds_append 3 (de_tup (da_cons (de_fz (dr_fnB 0 C__law_take hr (da_cons (de_int) (da_nil)))) (da_cons (de_sub (de_fz (dr_fnB 0 C__law_take hr (da_cons (de_add (de_mul (de_int) (de_var 5)) (de_int)) (da_nil)))) (de_var 5)) (da_cons (de_gt hr (de_fz (dr_fnB 0 C__law_take hr (da_cons (de_int) (da_nil)))) (de_int)) (da_nil)))))))))
      (dss_one (ds_ret (dr_give 3)))))

abbrev N__law_turned : List Str := ["pen", "stand", "hand", "turns", "slack", "gears", "offs", "knob"]
theorem sc__law_turned : FnScope N__law_turned ["pen", "stand", "hand", "turns"] (defScope s__law_turned) := ⟨rfl, rfl, rfl, by decide +kernel, rfl, by decide +kernel, by decide +kernel⟩
theorem ok__law_turned (M : Tx K mg) : CalR P w K mg base 1 "_law_turned" 4 F__law_turned := by
  exact calR_of (N := N__law_turned) (k := 0) (F := b__law_turned) M.d__law_turned sc__law_turned (by decide) (fun _ _ _ _ _ _ us hl => match us, hl with | [_, _, _, _], _ => rfl) (fun f cdv A outer s H E hr =>
      dss_cons (ds_par3 4 5 6 sc__law_turned.nd (dar_cons (dr_sh (de_ix (de_ix (de_var 0) (de_var 2)) (de_int))) (dar_cons (dr_list M.n_list (da_cons (de_ix (de_var 1) (de_int)) (da_nil))) (dar_cons (dr_list M.n_list (da_cons (de_ix (de_var 1) (de_int)) (da_nil))) (dar_nil)))) rfl)
      (dss_cons (ds_set 7 sc__law_turned.nd (dr_sh (de_add (de_add (de_ixO 5 (de_var 2)) (de_ixO 6 (de_var 2))) (de_var 3))))
      (dss_cons (ds_put 5 (de_ix (de_fz (dr_sorted M.n_sorted (da_cons (de_fz (dr_lst (da_cons (de_sub (de_var 7) (de_var 4)) (da_cons (de_ixO 5 (de_var 2)) (da_cons (de_var 7) (da_nil)))))) (da_nil)))) (de_int)) (de_var 2))
      (dss_cons (ds_put 6 (de_sub (de_var 7) (de_ixO 5 (de_var 2))) (de_var 2))
      (dss_one (ds_ret (dr_sh (de_tup (da_cons (de_fz (dr_tuple M.n_tuple (da_cons (de_var 5) (da_nil)))) (da_cons (de_fz (dr_tuple M.n_tuple (da_cons (de_var 6) (da_nil)))) (da_nil)))))))))))

abbrev N__law_edges : List Str := ["pen", "stand", "row", "found", "hand", "turns", "down", "there", "one", "other", "low"]
theorem sc__law_edges : FnScope N__law_edges ["pen", "stand", "row"] (defScope s__law_edges) := ⟨rfl, rfl, rfl, by decide +kernel, rfl, by decide +kernel, by decide +kernel⟩
theorem ok__law_edges (M : Tx K mg) : CalR P w K mg base 2 "_law_edges" 3 F__law_edges := by
  have C__law_turned := ok__law_turned (P := P) (w := w) (base := base) M
  exact calR_of (N := N__law_edges) (k := 1) (F := b__law_edges) M.d__law_edges sc__law_edges (by decide) (fun _ _ _ _ _ _ us hl => match us, hl with | [_, _, _], _ => rfl) (fun f cdv A outer s H E hr =>
      dss_cons (ds_set 3 sc__law_edges.nd (dr_dnewT))
      (dss_keys 3 (di_seq (de_var 2)) (dg_tup (dgs_cons (dg_name 4 sc__law_edges.nd) (dgs_cons (dg_name 5 sc__law_edges.nd) (dgs_cons (dg_name 6 sc__law_edges.nd) (dgs_nil))))) (dssu_cons (dsu_lift (ds_set 7 sc__law_edges.nd (dr_fn C__law_turned hr (da_cons (de_var 0) (da_cons (de_var 1) (da_cons (de_var 4) (da_cons (de_var 5) (da_nil))))))))
      (dssu_cons (dsu_lift (ds_par2 8 9 sc__law_edges.nd (dar_cons (dr_sh (de_ix (de_ix (de_var 1) (de_int)) (de_var 4))) (dar_cons (dr_sh (de_ix (de_ix (de_var 7) (de_int)) (de_var 4))) (dar_nil))) rfl))
      (dssu_cons (dsu_if (dt_val (de_var 6)) (dssu_one (dsu_up 3 hr (de_fz (dr_lc sc__law_edges.nd (di_rg2 M.n_range (da_cons (de_fz (dr_min M.n_min (da_cons (de_var 8) (da_cons (de_var 9) (da_nil))))) (da_cons (de_fz (dr_max M.n_max (da_cons (de_var 8) (da_cons (de_var 9) (da_nil))))) (da_nil)))) (blkOk_by (own := [("low", 10)]) (N := N__law_edges) (sc := defScope s__law_edges) (by decide +kernel)) (fun _ _ _ _ _ => dg_name 10 sc__law_edges.nd) (fun _ _ _ _ _ => dts_nil) (fun _ _ _ _ _ => de_tup (da_cons (de_tup (da_cons (de_var 4) (da_cons (de_ix (de_ix (de_var 1) (de_int)) (de_sub (de_int) (de_var 4))) (da_cons (de_var 10) (da_nil))))) (da_cons (de_bl) (da_nil)))))))) (dssu_nil))
      (dssu_one (dsu_lift (ds_set 1 sc__law_edges.nd (dr_sh (de_var 7)))))))) M.n_sorted hr))

abbrev N__law_edges_of : List Str := ["strokes1", "found", "hand", "across", "low", "high", "one"]
theorem sc__law_edges_of : FnScope N__law_edges_of ["strokes1"] (defScope s__law_edges_of) := ⟨rfl, rfl, rfl, by decide +kernel, rfl, by decide +kernel, by decide +kernel⟩
theorem ok__law_edges_of (M : Tx K mg) : CalR P w K mg base 1 "_law_edges_of" 1 F__law_edges_of := by
  exact calR_of (N := N__law_edges_of) (k := 0) (F := b__law_edges_of) M.d__law_edges_of sc__law_edges_of (by decide) (fun _ _ _ _ _ _ us hl => match us, hl with | [_], _ => rfl) (fun f cdv A outer s H E hr =>
      dss_cons (ds_set 1 sc__law_edges_of.nd (dr_lst (da_nil)))
      (dss_cons (ds_for (di_seq (de_var 0)) (dg_tup (dgs_cons (dg_name 2 sc__law_edges_of.nd) (dgs_cons (dg_name 3 sc__law_edges_of.nd) (dgs_cons (dg_name 4 sc__law_edges_of.nd) (dgs_cons (dg_name 5 sc__law_edges_of.nd) (dgs_nil)))))) (dss_one (ds_set 1 sc__law_edges_of.nd (dr_cat (de_var 1) (de_fz (dr_lc sc__law_edges_of.nd (di_rg2 M.n_range (da_cons (de_var 4) (da_cons (de_var 5) (da_nil)))) (blkOk_by (own := [("one", 6)]) (N := N__law_edges_of) (sc := defScope s__law_edges_of) (by decide +kernel)) (fun _ _ _ _ _ => dg_name 6 sc__law_edges_of.nd) (fun _ _ _ _ _ => dts_nil) (fun _ _ _ _ _ => de_tup (da_cons (de_var 2) (da_cons (de_var 3) (da_cons (de_var 6) (da_nil)))))))))))
      (dss_one (ds_ret (dr_sh (de_var 1))))))

abbrev N__law_far : List Str := ["pen", "stand", "row", "found", "hand", "turns", "down", "there", "one", "other", "fresh", "near", "lows", "highs", "old"]
theorem sc__law_far : FnScope N__law_far ["pen", "stand", "row"] (defScope s__law_far) := ⟨rfl, rfl, rfl, by decide +kernel, rfl, by decide +kernel, by decide +kernel⟩
theorem ok__law_far (M : Tx K mg) : CalR P w K mg base 2 "_law_far" 3 F__law_far := by
  have C__law_turned := ok__law_turned (P := P) (w := w) (base := base) M
  exact calR_of (N := N__law_far) (k := 1) (F := b__law_far) M.d__law_far sc__law_far (by decide) (fun _ _ _ _ _ _ us hl => match us, hl with | [_, _, _], _ => rfl) (fun f cdv A outer s H E hr =>
      dss_cons (ds_set 3 sc__law_far.nd (dr_lst (da_nil)))
      (dss_cons (ds_for (di_seq (de_var 2)) (dg_tup (dgs_cons (dg_name 4 sc__law_far.nd) (dgs_cons (dg_name 5 sc__law_far.nd) (dgs_cons (dg_name 6 sc__law_far.nd) (dgs_nil))))) (dss_cons (ds_set 7 sc__law_far.nd (dr_fn C__law_turned hr (da_cons (de_var 0) (da_cons (de_var 1) (da_cons (de_var 4) (da_cons (de_var 5) (da_nil)))))))
      (dss_cons (ds_par2 8 9 sc__law_far.nd (dar_cons (dr_sh (de_ix (de_ix (de_var 1) (de_int)) (de_var 4))) (dar_cons (dr_sh (de_ix (de_ix (de_var 7) (de_int)) (de_var 4))) (dar_nil))) rfl)
      (dss_cons (ds_if (dt_w (dw_and (dt_val (de_var 6)) (dw_and1 (dt_ne hr (de_var 8) (de_var 9))))) (dss_cons (ds_set 10 sc__law_far.nd (dr_sh (de_tup (da_cons (de_var 4) (da_cons (de_ix (de_ix (de_var 1) (de_int)) (de_sub (de_int) (de_var 4))) (da_cons (de_fz (dr_min M.n_min (da_cons (de_var 8) (da_cons (de_var 9) (da_nil))))) (da_cons (de_fz (dr_max M.n_max (da_cons (de_var 8) (da_cons (de_var 9) (da_nil))))) (da_nil))))))))
      (dss_cons (ds_set 11 sc__law_far.nd (dr_lc sc__law_far.nd (di_seq (de_var 3)) (blkOk_by (own := [("old", 14)]) (N := N__law_far) (sc := defScope s__law_far) (by decide +kernel)) (fun _ _ _ _ _ => dg_name 14 sc__law_far.nd) (fun _ _ _ _ _ => dts_one (dt_w (dw_and (dt_eq hr (de_fz (dr_cut (de_var 14) (do_no) (do_pt (de_int)))) (de_fz (dr_cut (de_var 10) (do_no) (do_pt (de_int))))) (dw_and (dt_le hr (de_ix (de_var 14) (de_int)) (de_ix (de_var 10) (de_int))) (dw_and1 (dt_le hr (de_ix (de_var 10) (de_int)) (de_ix (de_var 14) (de_int)))))))) (fun _ _ _ _ _ => de_var 14)))
      (dss_cons (ds_setLc 3 sc__law_far.nd (sw_true rfl rfl rfl (by decide +kernel)) (di_seq (de_var 3)) (blkOk_by (own := [("old", 14)]) (N := N__law_far) (sc := defScope s__law_far) (by decide +kernel)) (fun _ _ _ _ _ => dg_name 14 sc__law_far.nd) (fun _ _ _ _ _ => dts_one (dt_notIn hr (de_var 14) (de_var 11))) (fun _ _ _ _ _ => de_var 14))
      (dss_cons (ds_par2 12 13 sc__law_far.nd (dar_cons (dr_lc sc__law_far.nd (di_seq (de_add (de_var 11) (de_fz (dr_lst (da_cons (de_var 10) (da_nil)))))) (blkOk_by (own := [("old", 14)]) (N := N__law_far) (sc := defScope s__law_far) (by decide +kernel)) (fun _ _ _ _ _ => dg_name 14 sc__law_far.nd) (fun _ _ _ _ _ => dts_nil) (fun _ _ _ _ _ => de_ix (de_var 14) (de_int))) (dar_cons (dr_lc sc__law_far.nd (di_seq (de_add (de_var 11) (de_fz (dr_lst (da_cons (de_var 10) (da_nil)))))) (blkOk_by (own := [("old", 14)]) (N := N__law_far) (sc := defScope s__law_far) (by decide +kernel)) (fun _ _ _ _ _ => dg_name 14 sc__law_far.nd) (fun _ _ _ _ _ => dts_nil) (fun _ _ _ _ _ => de_ix (de_var 14) (de_int))) (dar_nil))) rfl)
      (dss_one (ds_append 3 (de_add (de_fz (dr_cut (de_var 10) (do_no) (do_pt (de_int)))) (de_tup (da_cons (de_fz (dr_min M.n_min (da_cons (de_var 12) (da_nil)))) (da_cons (de_fz (dr_max M.n_max (da_cons (de_var 13) (da_nil)))) (da_nil))))))))))) (dss_nil))
      (dss_one (ds_set 1 sc__law_far.nd (dr_sh (de_var 7))))))))
      (dss_one (ds_ret (dr_tuple M.n_tuple (da_cons (de_fz (dr_sortL hr M.n_sorted (de_var 3))) (da_nil)))))))

abbrev N_law : List Str := ["script", "bag", "pen", "stand", "row", "told1", "far", "short", "lifted", "turn"]
theorem sc_law : FnScope N_law ["script"] (defScope s_law) := ⟨rfl, rfl, rfl, by decide +kernel, rfl, by decide +kernel, by decide +kernel⟩
theorem ok_law (M : Tx K mg) : ∃ f fd, mg "law" = some (.ref f) ∧ (∀ (s : Shared) (v : Value), BindsTo s fd ⟨[v], []⟩ [("script", v)]) ∧ ∀ base : Heap, FnOk P w K mg base CX0 9 f fd ["script"] (spLaw K) := by
  obtain ⟨f, fd, D, g⟩ := M.d_law.ex
  have b := D.bindsA (ps := ["script"]) fun _ _ _ _ _ _ us hl => match us, hl with | [_], _ => rfl
  refine ⟨f, fd, g, fun s v => b s [v] rfl, fun base => ?_⟩
  have C__law_bags := ok__law_bags (P := P) (w := w) (base := base) M
  have C__law_pen := ok__law_pen (P := P) (w := w) (base := base) M
  have C__law_stand := ok__law_stand (P := P) (w := w) (base := base) M
  have C__law_row := ok__law_row (P := P) (w := w) (base := base) M
  have C_drawing := ok_drawing (P := P) (w := w) (base := base) M
  have C__law_same := ok__law_same (P := P) (w := w) (base := base) M
  have C__law_far := ok__law_far (P := P) (w := w) (base := base) M
  have C_behind := ok_behind (P := P) (w := w) (base := base) M
  have C__law_take := ok__law_take (P := P) (w := w) (base := base) M
  have C__law_edges_of := ok__law_edges_of (P := P) (w := w) (base := base) M
  have C__law_edges := ok__law_edges (P := P) (w := w) (base := base) M
  refine D.ok sc_law (fun vs H Q E h => ?_) (fun cdv A outer s H vs Q E hr h => ?_)
  · obtain ⟨a, ns, rfl, _⟩ := h
    rfl
  · refine ⟨tLaw K 8 1 fNext b_main, PSs.nox ?_, law_reading (N := N_law) (n := 10) (m := 8) (ib := 1) (Fp := fNext) (Fm := b_main) (by decide) (by decide) (by decide) (by decide) law_ok h⟩
    exact pre_done (pss_cons (ps_main 1 (m := 8) (F := b_main) C__law_bags hr (dss_cons (ds_set 2 sc_law.nd (dr_fnB 1 C__law_pen hr (da_cons (de_ix (de_fz (dr_lst (da_cons (de_int) (da_cons (de_int) (da_nil))))) (de_fz (dr_fnB 1 C__law_take hr (da_cons (de_int) (da_nil))))) (da_nil))))
      (dss_cons (ds_set 3 sc_law.nd (dr_fnB 1 C__law_stand hr (da_cons (de_var 2) (da_cons (de_ix (de_fz (dr_lst (da_cons (de_pow (de_int) (de_int)) (da_cons (de_int) (da_nil))))) (de_fz (dr_fnB 1 C__law_take hr (da_cons (de_int) (da_nil))))) (da_nil)))))
      (dss_cons (ds_set 4 sc_law.nd (dr_fnB 1 C__law_row hr (da_cons (de_int) (da_cons (de_int) (da_nil)))))
      (dss_cons (ds_set 5 sc_law.nd (dr_fn C_drawing hr (da_cons (de_var 2) (da_cons (de_var 3) (da_cons (de_var 4) (da_nil))))))
      (dss_cons (ds_if (dt_w (dw_or (dt_ne hr (de_fz (dr_fn C__law_edges_of hr (da_cons (de_var 5) (da_nil)))) (de_fz (dr_fn C__law_edges hr (da_cons (de_var 2) (da_cons (de_var 3) (da_cons (de_var 4) (da_nil))))))) (dw_or1 (dt_not (dt_val (de_isi M.n_isinstance (de_var 5) M.n_tuple PyProof.Rows.boot_tuple)))))) (dss_one (ds_ret (dr_sh (de_bl)))) (dss_nil))
      (dss_cons (ds_if (dt_w (dw_or (dt_ne hr (de_fz (dr_list M.n_list (da_cons (de_var 5) (da_nil)))) (de_fz (dr_sortL hr M.n_sorted (de_var 5)))) (dw_or1 (dt_not (dt_val (de_fz (dr_fn C__law_same hr (da_cons (de_var 5) (da_cons (de_fz (dr_fn C__law_far hr (da_cons (de_var 2) (da_cons (de_var 3) (da_cons (de_var 4) (da_nil)))))) (da_nil)))))))))) (dss_one (ds_ret (dr_sh (de_bl)))) (dss_nil))
      (dss_cons (ds_set 6 sc_law.nd (dr_fnB 1 C__law_row hr (da_cons (de_int) (da_cons (de_pow (de_int) (de_int)) (da_nil)))))
      (dss_cons (ds_if (dt_not (dt_val (de_fz (dr_fn C__law_same hr (da_cons (de_fz (dr_fn C_drawing hr (da_cons (de_var 2) (da_cons (de_var 3) (da_cons (de_var 6) (da_nil)))))) (da_cons (de_fz (dr_fn C__law_far hr (da_cons (de_var 2) (da_cons (de_var 3) (da_cons (de_var 6) (da_nil)))))) (da_nil))))))) (dss_one (ds_ret (dr_sh (de_bl)))) (dss_nil))
      (dss_cons (ds_if (dt_ne hr (de_fz (dr_fn C_drawing hr (da_cons (de_var 2) (da_cons (de_var 3) (da_cons (de_fz (dr_lc sc_law.nd (di_seq (de_var 4)) (blkOk_by (own := [("turn", 9)]) (N := N_law) (sc := defScope s_law) (by decide +kernel)) (fun _ _ _ _ _ => dg_name 9 sc_law.nd) (fun _ _ _ _ _ => dts_nil) (fun _ _ _ _ _ => de_add (de_fz (dr_cut (de_var 9) (do_no) (do_pt (de_int)))) (de_tup (da_cons (de_bl) (da_nil)))))) (da_nil)))))) (de_tup (da_nil))) (dss_one (ds_ret (dr_sh (de_bl)))) (dss_nil))
      (dss_cons (ds_set 7 sc_law.nd (dr_cut (de_var 4) (do_no) (do_pt (de_int))))
      (dss_cons (ds_setLc 8 sc_law.nd (sw_true rfl rfl rfl (by decide +kernel)) (di_seq (de_fz (dr_cut (de_var 4) (do_pt (de_int)) (do_no)))) (blkOk_by (own := [("turn", 9)]) (N := N_law) (sc := defScope s_law) (by decide +kernel)) (fun _ _ _ _ _ => dg_name 9 sc_law.nd) (fun _ _ _ _ _ => dts_nil) (fun _ _ _ _ _ => de_add (de_fz (dr_cut (de_var 9) (do_no) (do_pt (de_int)))) (de_tup (da_cons (de_bl) (da_nil)))))
      (dss_cons (ds_if (dt_ne hr (de_fz (dr_fn C_drawing hr (da_cons (de_var 2) (da_cons (de_var 3) (da_cons (de_add (de_var 7) (de_var 8)) (da_nil)))))) (de_fz (dr_fn C__law_far hr (da_cons (de_var 2) (da_cons (de_var 3) (da_cons (de_var 7) (da_nil))))))) (dss_one (ds_ret (dr_sh (de_bl)))) (dss_nil))
      (dss_one (ds_if (dt_ne hr (de_fz (dr_fn C_behind hr (da_cons (de_var 2) (da_cons (de_var 3) (da_cons (de_add (de_var 7) (de_var 8)) (da_nil)))))) (de_fz (dr_fn C_behind hr (da_cons (de_var 2) (da_cons (de_var 3) (da_cons (de_var 4) (da_nil))))))) (dss_one (ds_ret (dr_sh (de_bl)))) (dss_nil))))))))))))))) sc_law.nd) (pss_one (ds_ret (dr_sh de_bl))))

end
theorem tx_of {K : PySem.W.Frag} {h : Heap} {mg : Str → Option Value} (X : K.In h) (G : h.Ns mainGlobals mg) (c : He.SaysD GE.fa GE.fn K) : Tx K mg := by
  refine ⟨?_, ?_, ?_, ?_, ?_, ?_, ?_, ?_, ?_, ?_, ?_, ?_, ?_, ?_, ?_, ?_, ?_, ?_, ?_, ?_, ?_, ?_, ?_, ?_, ?_, ?_, ?_, ?_, ?_, ?_, ?_, ?_, ?_, ?_, ?_, ?_, ?_, ?_, ?_, ?_, ?_, ?_, ?_, ?_, ?_, ?_, ?_, ?_, ?_⟩
  · exact He.free_ok X G (c.fact 35 (f := .free "isinstance") rfl)
  · exact He.free_ok X G (c.fact 36 (f := .free "len") rfl)
  · exact He.free_ok X G (c.fact 37 (f := .free "all") rfl)
  · exact He.free_ok X G (c.fact 38 (f := .free "range") rfl)
  · exact He.free_ok X G (c.fact 39 (f := .free "zip") rfl)
  · exact He.free_ok X G (c.fact 40 (f := .free "tuple") rfl)
  · exact He.free_ok X G (c.fact 41 (f := .free "list") rfl)
  · exact He.free_ok X G (c.fact 42 (f := .free "sorted") rfl)
  · exact He.free_ok X G (c.fact 43 (f := .free "enumerate") rfl)
  · exact He.free_ok X G (c.fact 44 (f := .free "min") rfl)
  · exact He.free_ok X G (c.fact 45 (f := .free "max") rfl)
  · exact He.free_ok X G (c.fact 46 (f := .free "bool") rfl)
  · exact He.free_ok X G (c.fact 47 (f := .free "int") rfl)
  · exact He.free_ok X G (c.fact 48 (f := .free "str") rfl)
  · exact He.int_ok X G (c.fact 30 (f := .int "MOST_SLACK" 20) rfl)
  · exact He.int_ok X G (c.fact 31 (f := .int "MOST_LEAD" 9) rfl)
  · exact He.int_ok X G (c.fact 32 (f := .int "MOST_GEAR" 1000000000000000) rfl)
  · exact He.int_ok X G (c.fact 33 (f := .int "MOST_TURN" 1000000000000) rfl)
  · exact He.int_ok X G (c.fact 34 (f := .int "MOST_ROW" 60) rfl)
  · obtain ⟨fd, F⟩ := c.def_ 0 (d := GE.q_is_whole) rfl
    exact ⟨_, fd, F, He.glo_ok X G (c.fact 0 (f := .glo "is_whole") rfl)⟩
  · obtain ⟨fd, F⟩ := c.def_ 1 (d := GE.q_is_within) rfl
    exact ⟨_, fd, F, He.glo_ok X G (c.fact 1 (f := .glo "is_within") rfl)⟩
  · obtain ⟨fd, F⟩ := c.def_ 2 (d := GE.q_is_pair) rfl
    exact ⟨_, fd, F, He.glo_ok X G (c.fact 2 (f := .glo "is_pair") rfl)⟩
  · obtain ⟨fd, F⟩ := c.def_ 3 (d := GE.q_is_hand) rfl
    exact ⟨_, fd, F, He.glo_ok X G (c.fact 3 (f := .glo "is_hand") rfl)⟩
  · obtain ⟨fd, F⟩ := c.def_ 4 (d := GE.q_is_pen) rfl
    exact ⟨_, fd, F, He.glo_ok X G (c.fact 4 (f := .glo "is_pen") rfl)⟩
  · obtain ⟨fd, F⟩ := c.def_ 5 (d := GE.q_is_stand) rfl
    exact ⟨_, fd, F, He.glo_ok X G (c.fact 5 (f := .glo "is_stand") rfl)⟩
  · obtain ⟨fd, F⟩ := c.def_ 6 (d := GE.q_is_turn) rfl
    exact ⟨_, fd, F, He.glo_ok X G (c.fact 6 (f := .glo "is_turn") rfl)⟩
  · obtain ⟨fd, F⟩ := c.def_ 7 (d := GE.q_is_row) rfl
    exact ⟨_, fd, F, He.glo_ok X G (c.fact 7 (f := .glo "is_row") rfl)⟩
  · obtain ⟨fd, F⟩ := c.def_ 8 (d := GE.q_look_at_pen) rfl
    exact ⟨_, fd, F, He.glo_ok X G (c.fact 8 (f := .glo "look_at_pen") rfl)⟩
  · obtain ⟨fd, F⟩ := c.def_ 9 (d := GE.q_look_at_row) rfl
    exact ⟨_, fd, F, He.glo_ok X G (c.fact 9 (f := .glo "look_at_row") rfl)⟩
  · obtain ⟨fd, F⟩ := c.def_ 10 (d := GE.q_turned_so) rfl
    exact ⟨_, fd, F, He.glo_ok X G (c.fact 10 (f := .glo "turned_so") rfl)⟩
  · obtain ⟨fd, F⟩ := c.def_ 11 (d := GE.q_put) rfl
    exact ⟨_, fd, F, He.glo_ok X G (c.fact 11 (f := .glo "put") rfl)⟩
  · obtain ⟨fd, F⟩ := c.def_ 12 (d := GE.q_turned) rfl
    exact ⟨_, fd, F, He.glo_ok X G (c.fact 12 (f := .glo "turned") rfl)⟩
  · obtain ⟨fd, F⟩ := c.def_ 13 (d := GE.q_behind) rfl
    exact ⟨_, fd, F, He.glo_ok X G (c.fact 13 (f := .glo "behind") rfl)⟩
  · obtain ⟨fd, F⟩ := c.def_ 14 (d := GE.q_joined) rfl
    exact ⟨_, fd, F, He.glo_ok X G (c.fact 14 (f := .glo "joined") rfl)⟩
  · obtain ⟨fd, F⟩ := c.def_ 15 (d := GE.q_strokes_of) rfl
    exact ⟨_, fd, F, He.glo_ok X G (c.fact 15 (f := .glo "strokes_of") rfl)⟩
  · obtain ⟨fd, F⟩ := c.def_ 16 (d := GE.q_drawing) rfl
    exact ⟨_, fd, F, He.glo_ok X G (c.fact 16 (f := .glo "drawing") rfl)⟩
  · obtain ⟨fd, F⟩ := c.def_ 17 (d := GE.q__law_well) rfl
    exact ⟨_, fd, F, He.glo_ok X G (c.fact 17 (f := .glo "_law_well") rfl)⟩
  · obtain ⟨fd, F⟩ := c.def_ 18 (d := GE.q__law_take) rfl
    exact ⟨_, fd, F, He.glo_ok X G (c.fact 18 (f := .glo "_law_take") rfl)⟩
  · obtain ⟨fd, F⟩ := c.def_ 19 (d := GE.q__law_bags) rfl
    exact ⟨_, fd, F, He.glo_ok X G (c.fact 19 (f := .glo "_law_bags") rfl)⟩
  · obtain ⟨fd, F⟩ := c.def_ 20 (d := GE.q__law_same) rfl
    exact ⟨_, fd, F, He.glo_ok X G (c.fact 20 (f := .glo "_law_same") rfl)⟩
  · obtain ⟨fd, F⟩ := c.def_ 21 (d := GE.q__law_lead) rfl
    exact ⟨_, fd, F, He.glo_ok X G (c.fact 21 (f := .glo "_law_lead") rfl)⟩
  · obtain ⟨fd, F⟩ := c.def_ 22 (d := GE.q__law_pen) rfl
    exact ⟨_, fd, F, He.glo_ok X G (c.fact 22 (f := .glo "_law_pen") rfl)⟩
  · obtain ⟨fd, F⟩ := c.def_ 23 (d := GE.q__law_stand) rfl
    exact ⟨_, fd, F, He.glo_ok X G (c.fact 23 (f := .glo "_law_stand") rfl)⟩
  · obtain ⟨fd, F⟩ := c.def_ 24 (d := GE.q__law_row) rfl
    exact ⟨_, fd, F, He.glo_ok X G (c.fact 24 (f := .glo "_law_row") rfl)⟩
  · obtain ⟨fd, F⟩ := c.def_ 25 (d := GE.q__law_turned) rfl
    exact ⟨_, fd, F, He.glo_ok X G (c.fact 25 (f := .glo "_law_turned") rfl)⟩
  · obtain ⟨fd, F⟩ := c.def_ 26 (d := GE.q__law_edges) rfl
    exact ⟨_, fd, F, He.glo_ok X G (c.fact 26 (f := .glo "_law_edges") rfl)⟩
  · obtain ⟨fd, F⟩ := c.def_ 27 (d := GE.q__law_edges_of) rfl
    exact ⟨_, fd, F, He.glo_ok X G (c.fact 27 (f := .glo "_law_edges_of") rfl)⟩
  · obtain ⟨fd, F⟩ := c.def_ 28 (d := GE.q__law_far) rfl
    exact ⟨_, fd, F, He.glo_ok X G (c.fact 28 (f := .glo "_law_far") rfl)⟩
  · obtain ⟨fd, F⟩ := c.def_ 29 (d := GE.q_law) rfl
    exact ⟨_, fd, F, He.glo_ok X G (c.fact 29 (f := .glo "law") rfl)⟩

end G
open PySem PySem.W PySem.Calls PyProof.Rows
theorem PySem.Challenge.cw_slackpen_k04_drawings_edge_by_edge_holds : PySem.Challenge.rw_slackpen_k04_drawings_edge_by_edge.Holds := by
  w_on; o_law
  refine HandSHeadRun.head_any (r := GE.R) (q := view GE.R.prog [42])
    (H := GE.hk) (ob := GE.ob) (M := 4000) (loose := GE.loose)
    (d := HandSHeadRun.topDef GE.R.prog 42) (kwd := []) GE.ob_eq
    (by kernel_rfl) (fun s => by kernel_rfl) GE.run (by kernel_rfl)
    (by kernel_rfl) (by kernel_rfl) (by rfl) (by first | assumption | decide +kernel)
    (by decide +kernel) ⟨rfl, rfl, rfl, rfl, rfl, by decide +kernel⟩ ?hw ?hc
  case hw => w_witness2
  case hc =>
    refine L2.walk_ofE (l := PySem.Challenge.rw_slackpen_k04_drawings_edge_by_edge) (n := 63) (k := 9)
      (x := "script") (CX := L2.CX0) rfl (by decide) (by kernel_rfl)
      ⟨rfl, by decide, by decide⟩ ?F (fun _ _ _ _ z => z)
    intro w mg fa h Y Gn hmg0
    obtain ⟨K, KX, c⟩ := Y
    letI : G.TbC := ⟨[]⟩
    have hmg : mg ("law" : PySem.Str) = some (.ref fa) := by
      have e : (HandSHeadRun.topDef GE.R.prog 42).name = ("law" : PySem.Str) := by kernel_rfl
      exact e ▸ hmg0
    obtain ⟨f, fd, e1, hb, hF⟩ := G.ok_law (P := (PySem.Challenge.rw_slackpen_k04_drawings_edge_by_edge).prog) (w := w) (G.tx_of KX Gn c)
    have e2 : f = fa := by
      have e3 := e1.symm.trans hmg
      cases e3
      rfl
    subst e2
    exact ⟨K, fd, G.spLaw K, KX, hb, fun H a ns hl _ hS => ⟨a, ns, rfl, fun p hp => (nomatch hp), hS, hl, fun _ => rfl⟩, fun base _ _ => hF base⟩
