import PyProof.Rows.All
import Wide.All
import OpenK.AllK
import Wide.FinOn
import KE.KStateDown
import Lean
import HandS.ForMost
import HandS.More
import HandS.Defaults
import HandS.Wide
import HandS.IsInst
import HandS.Conv
import HandS.Zip
import HandS.Style
import HandS.Head0
import HandS.Head1
import HandS.Head2
import HandS.HeadEnd
import HandS.HeadHook1
import HandS.HeadHook2
import HandS.TupAny
import HandS.TupMul
import HandS.TupLe
import HandS.Deep
import HandS.SortInts
import HandS.ForDict
import HandS.DictComp
import HandS.Sort
import KE.KDictSum
import PySem.Challenge.RW_slackpen_k09_whole_turns_that_can_have_b
set_option Elab.async false
set_option linter.all false
set_option maxRecDepth 100000
set_option maxHeartbeats 4000000
namespace G
open PySem PySem.Spec PyProof.Rows L2
/-! GBase: a frame's slots by pure data, worlds of frozen objects, judgements with a pure function each. -/

/-- what a slot of a frame holds: nothing known, just this value, shared data, a list of the frame's own, the list that was handed in to be changed, a dict of the frame's own -/
inductive Sl where
  | un
  | ad (v : V)
  | sh (d : PyData)
  | ow (xs : List PyData)
  | io (xs : List PyData)
  | ok (kvs : List (Key × PyData))
  | ot (kvs : List (List Key × PyData))
  | lk (kvs : List (Key × PyData))
  | lt (kvs : List (List Key × PyData))
  | pi
abbrev En := List Sl
def isOwn : Sl → Bool
  | .un => false
  | .ad _ => false
  | .sh _ => false
  | .lk _ => false
  | .lt _ => false
  | .pi => false
  | _ => true
def isIo : Sl → Bool
  | .io _ => true
  | _ => false
/-- what stays: its objects, the address of the list that was handed in -/
structure Zn where
  fr : Hp
  bag : Addr
  pin : Addr := 0
def Zn.upd (Z : Zn) (p : Addr) (o : HO) : Zn := ⟨L2.upd Z.fr p o, Z.bag, Z.pin⟩

/-! ### data in a world: every list and tuple of it is tracked there -/
mutual
inductive Dr (B : Hp) : V → PyData → Prop
  | non : Dr B .non .none
  | bl (b : Bool) : Dr B (.bl b) (.bool b)
  | int (i : Int) : Dr B (.int i) (.int i)
  | str (x : Str) : Dr B (.str x) (.str x)
  | lst {a : Addr} {xs : List V} {ds : List PyData} : B a = some (.lst xs) → DrAll B xs ds → Dr B (.ref a) (.list ds)
  | tup {a : Addr} {xs : List V} {ds : List PyData} : B a = some (.tup xs) → DrAll B xs ds → Dr B (.ref a) (.tuple ds)
inductive DrAll (B : Hp) : List V → List PyData → Prop
  | nil : DrAll B [] []
  | cons {v : V} {vs : List V} {d : PyData} {ds : List PyData} : Dr B v d → DrAll B vs ds → DrAll B (v :: vs) (d :: ds)
end
mutual
theorem dr_mono {H H' : Hp} (e : Same H H') : ∀ (d : PyData) (v : V), Dr H v d → Dr H' v d
  | .none, _, h => by cases h; exact .non
  | .bool b, _, h => by cases h; exact .bl b
  | .int i, _, h => by cases h; exact .int i
  | .str x, _, h => by cases h; exact .str x
  | .list ds, _, h => by
    cases h with
    | lst hs ha => exact .lst (e _ _ hs) (drAll_mono e ds _ ha)
  | .tuple ds, _, h => by
    cases h with
    | tup hs ha => exact .tup (e _ _ hs) (drAll_mono e ds _ ha)
  | .dict _, _, h => by cases h
theorem drAll_mono {H H' : Hp} (e : Same H H') : ∀ (ds : List PyData) (vs : List V), DrAll H vs ds → DrAll H' vs ds
  | [], _, h => by cases h; exact .nil
  | d :: ds, _, h => by
    cases h with
    | cons h1 h2 => exact .cons (dr_mono e d _ h1) (drAll_mono e ds _ h2)
end
mutual
theorem dr_dp {K : PySem.W.Frag} {H : Hp} : ∀ (d : PyData) (v : V), Dr H v d → Dp K H v d
  | .none, _, h => by cases h; exact .non
  | .bool b, _, h => by cases h; exact .bl b
  | .int i, _, h => by cases h; exact .int i
  | .str x, _, h => by cases h; exact .str x
  | .list ds, _, h => by
    cases h with
    | lst hs ha => exact .lst (SqL.of hs) (drAll_dp ds _ ha)
  | .tuple ds, _, h => by
    cases h with
    | tup hs ha => exact .tup (SqT.of hs) (drAll_dp ds _ ha)
  | .dict _, _, h => by cases h
theorem drAll_dp {K : PySem.W.Frag} {H : Hp} : ∀ (ds : List PyData) (vs : List V), DrAll H vs ds → DpAll K H vs ds
  | [], _, h => by cases h; exact .nil
  | d :: ds, _, h => by
    cases h with
    | cons h1 h2 => exact .cons (dr_dp d _ h1) (drAll_dp ds _ h2)
end
theorem Dr.mono {H H' : Hp} {v : V} {d : PyData} (h : Dr H v d) (e : Same H H') : Dr H' v d := dr_mono e d v h
theorem DrAll.mono {H H' : Hp} {vs : List V} {ds : List PyData} (h : DrAll H vs ds) (e : Same H H') : DrAll H' vs ds := drAll_mono e ds vs h
theorem DrAll.length {H : Hp} : ∀ {vs : List V} {ds : List PyData}, DrAll H vs ds → vs.length = ds.length
  | _, _, .nil => rfl
  | _, _, .cons _ t => by rw [List.length_cons, List.length_cons, DrAll.length t]
theorem DrAll.app {H : Hp} : ∀ {vs ws : List V} {ds es : List PyData}, DrAll H vs ds → DrAll H ws es → DrAll H (vs ++ ws) (ds ++ es)
  | _, _, _, _, .nil, h => h
  | _, _, _, _, .cons a t, h => .cons a (DrAll.app t h)
theorem DrAll.get {H : Hp} : ∀ {vs : List V} {ds : List PyData} {i : Nat} {d : PyData}, DrAll H vs ds → ds[i]? = some d → ∃ v, vs[i]? = some v ∧ Dr H v d
  | _, _, _, _, .nil, e => by simp at e
  | _, _, 0, _, .cons a _, e => by
    simp at e
    subst e
    exact ⟨_, rfl, a⟩
  | _, _, i + 1, _, .cons _ t, e => by
    obtain ⟨v, h1, h2⟩ := DrAll.get (i := i) t (by simpa using e)
    exact ⟨v, by simpa using h1, h2⟩
theorem DrAll.getV {H : Hp} : ∀ {vs : List V} {ds : List PyData} {i : Nat} {v : V}, DrAll H vs ds → vs[i]? = some v → ∃ d, ds[i]? = some d ∧ Dr H v d
  | _, _, _, _, .nil, e => by simp at e
  | _, _, 0, _, .cons a _, e => by
    simp at e
    subst e
    exact ⟨_, rfl, a⟩
  | _, _, i + 1, _, .cons _ t, e => by
    obtain ⟨v, h1, h2⟩ := DrAll.getV (i := i) t (by simpa using e)
    exact ⟨v, by simpa using h1, h2⟩
theorem DrAll.set {H : Hp} {v : V} {d : PyData} (hd : Dr H v d) : ∀ {vs : List V} {ds : List PyData} (i : Nat), DrAll H vs ds → DrAll H (vs.set i v) (ds.set i d)
  | _, _, _, .nil => .nil
  | _, _, 0, .cons _ t => .cons hd t
  | _, _, i + 1, .cons a t => .cons a (DrAll.set hd i t)
theorem DrAll.take {H : Hp} : ∀ {vs : List V} {ds : List PyData} (n : Nat), DrAll H vs ds → DrAll H (vs.take n) (ds.take n)
  | _, _, 0, _ => .nil
  | _, _, _ + 1, .nil => .nil
  | _, _, n + 1, .cons r t => .cons r (DrAll.take n t)
theorem DrAll.drop {H : Hp} : ∀ {vs : List V} {ds : List PyData} (n : Nat), DrAll H vs ds → DrAll H (vs.drop n) (ds.drop n)
  | _, _, 0, r => r
  | _, _, _ + 1, .nil => .nil
  | _, _, n + 1, .cons _ t => DrAll.drop n t
theorem DrAll.ints {H : Hp} : ∀ (ns : List Int), DrAll H (ns.map V.int) (ns.map PyData.int)
  | [] => .nil
  | n :: ns => .cons (.int n) (DrAll.ints ns)
theorem DrAll.ints_inv {H : Hp} : ∀ (ns : List Int) {vs : List V}, DrAll H vs (ns.map PyData.int) → vs = ns.map V.int
  | [], _, h => by cases h; rfl
  | n :: ns, _, h => by
    cases h with
    | cons a t =>
      cases a
      rw [DrAll.ints_inv ns t]
      rfl
theorem DrAll.bools_inv {H : Hp} : ∀ (ns : List Bool) {vs : List V}, DrAll H vs (ns.map PyData.bool) → vs = ns.map V.bl
  | [], _, h => by cases h; rfl
  | n :: ns, _, h => by
    cases h with
    | cons a t =>
      cases a
      rw [DrAll.bools_inv ns t]
      rfl

/-! ### own objects -/
inductive KvR (B : Hp) {κ : Type} : List (κ × V) → List (κ × PyData) → Prop
  | nil : KvR B [] []
  | cons {k : κ} {v : V} {d : PyData} {l : List (κ × V)} {m : List (κ × PyData)} : Dr B v d → KvR B l m → KvR B ((k, v) :: l) ((k, d) :: m)
theorem KvR.mono {B B' : Hp} {κ : Type} (e : Same B B') : ∀ {l : List (κ × V)} {m : List (κ × PyData)}, KvR B l m → KvR B' l m
  | _, _, .nil => .nil
  | _, _, .cons a t => .cons (a.mono e) (t.mono e)
def OwnR (B : Hp) (o : HO) : Sl → Prop
  | .ow xs => match o with
    | .lst vs => DrAll B vs xs
    | _ => False
  | .io xs => match o with
    | .lst vs => DrAll B vs xs
    | _ => False
  | .ok m => match o with
    | .dK l => KvR B l m
    | _ => False
  | .ot m => match o with
    | .dT l => KvR B l m
    | _ => False
  | _ => False
/-- slots that are no data: a known value, a locked dict -/
def AdR (B : Hp) (pin : Addr) (w : Option (Option V)) : Sl → Prop
  | .pi => w = some (some (.ref pin))
  | .ad v => w = some (some v)
  | .lk m => ∃ a d l, w = some (some (.ref a)) ∧ B a = some (.frz d (.dK l)) ∧ KvR B l m
  | .lt m => ∃ a d l, w = some (some (.ref a)) ∧ B a = some (.frz d (.dT l)) ∧ KvR B l m
  | _ => True
theorem AdR.mono {B B' : Hp} {pin : Addr} {w : Option (Option V)} {s : Sl} (h : AdR B pin w s) (e : Same B B') : AdR B' pin w s := by
  cases s with
  | lk m =>
    obtain ⟨a, d, l, h1, h2, h3⟩ := h
    exact ⟨a, d, l, h1, e _ _ h2, h3.mono e⟩
  | lt m =>
    obtain ⟨a, d, l, h1, h2, h3⟩ := h
    exact ⟨a, d, l, h1, e _ _ h2, h3.mono e⟩
  | ad v => exact h
  | pi => exact h
  | _ => trivial
theorem adR_own {B : Hp} {pin : Addr} {w : Option (Option V)} {s : Sl} (h : isOwn s = true) : AdR B pin w s := by
  cases s <;> first | trivial | cases h
theorem OwnR.mono {B B' : Hp} {o : HO} {s : Sl} (h : OwnR B o s) (e : Same B B') : OwnR B' o s := by
  cases s with
  | lk m => exact h.elim
  | lt m => exact h.elim
  | pi => exact h.elim
  | un => exact h.elim
  | ad v => exact h.elim
  | sh d => exact h.elim
  | ow xs => cases o <;> first | exact h.elim | exact DrAll.mono h e
  | io xs => cases o <;> first | exact h.elim | exact DrAll.mono h e
  | ok m => cases o <;> first | exact h.elim | exact KvR.mono e h
  | ot m => cases o <;> first | exact h.elim | exact KvR.mono e h
theorem OwnR.own {B : Hp} {o : HO} {s : Sl} (h : OwnR B o s) : isOwn s = true := by
  cases s <;> first | rfl | exact h.elim

/-- what is known of a frame: B the frozen world, Z what must stay, H the heap -/
structure EnvOk (Z : Zn) (B : Hp) (σ : L2.St) (H : Hp) (ρ : En) : Prop where
  le : Same B H
  lz : Same Z.fr H
  dj : ∀ a o, Z.fr a = some o → B a = none
  len : σ.length = ρ.length
  sh : ∀ (i : Nat) d, ρ[i]? = some (.sh d) → ∃ v, σ[i]? = some (some v) ∧ Dr B v d
  ow : ∀ (i : Nat) s, ρ[i]? = some s → isOwn s = true → ∃ a o, σ[i]? = some (some (.ref a)) ∧ H a = some o ∧ B a = none ∧ Z.fr a = none ∧ OwnR B o s
  io : ∀ (i : Nat) xs, ρ[i]? = some (.io xs) → σ[i]? = some (some (.ref Z.bag))
  ad : ∀ (i : Nat) s, ρ[i]? = some s → AdR B Z.pin σ[i]? s
  inj : ∀ (i j : Nat) s t a, ρ[i]? = some s → isOwn s = true → ρ[j]? = some t → isOwn t = true → σ[i]? = some (some (.ref a)) → σ[j]? = some (some (.ref a)) → i = j
/-- the address is no own object's -/
def NotOwn (σ : L2.St) (ρ : En) (a : Addr) : Prop := ∀ (j : Nat) s, ρ[j]? = some s → isOwn s = true → σ[j]? ≠ some (some (.ref a))

section
variable {Z : Zn} {B : Hp} {σ : L2.St} {H : Hp} {ρ : En}
theorem none_of_le {B H : Hp} {a : Addr} (e : Same B H) (h : H a = none) : B a = none := e.free h
theorem same_upd_new {B : Hp} {p : Addr} {o : HO} (h : B p = none) : Same B (upd B p o) := fun a u e => by
  rw [upd_ne (ne_of_none e h)]
  exact e
theorem same_upd_right {B H : Hp} {p : Addr} {o : HO} (e : Same B H) (h : B p = none) : Same B (upd H p o) := fun a u q => by
  rw [upd_ne (ne_of_none q h)]
  exact e a u q
theorem same_upd_both {B H : Hp} {p : Addr} {o : HO} (e : Same B H) : Same (upd B p o) (upd H p o) := fun a u q => by
  by_cases h : a = p
  · subst h
    rw [upd_same] at q ⊢
    exact q
  · rw [upd_ne h] at q ⊢
    exact e a u q
theorem NotOwn.new (ok : EnvOk Z B σ H ρ) {a : Addr} (h : H a = none) : NotOwn σ ρ a := fun j s e1 e2 e3 => by
  obtain ⟨b, o, e4, e5, _⟩ := ok.ow j s e1 e2
  rw [e3] at e4
  cases e4
  rw [h] at e5
  cases e5
/-- a new object, not tracked by the world -/
theorem EnvOk.junk (ok : EnvOk Z B σ H ρ) {p : Addr} {o : HO} (h : H p = none) : EnvOk Z B σ (upd H p o) ρ := by
  refine ⟨same_upd_right ok.le (ok.le.free h), same_upd_right ok.lz (ok.lz.free h), ok.dj, ok.len, ok.sh, fun i s e1 e2 => ?_, ok.io, ok.ad, ok.inj⟩
  obtain ⟨a, u, h1, h2, h3, h4, h5⟩ := ok.ow i s e1 e2
  exact ⟨a, u, h1, by rw [upd_ne (ne_of_none h2 h)]; exact h2, h3, h4, h5⟩
/-- a heap's object joins the world -/
theorem EnvOk.freeze (ok : EnvOk Z B σ H ρ) {p : Addr} {o : HO} (h : H p = some o) (hb : B p = none) (hz : Z.fr p = none) (hn : NotOwn σ ρ p) : EnvOk Z (upd B p o) σ H ρ := by
  have sb : Same B (upd B p o) := same_upd_new hb
  refine ⟨fun a u q => ?_, ok.lz, fun a u q => ?_, ok.len, fun i d e => ?_, fun i s e1 e2 => ?_, ok.io, fun i s e => (ok.ad i s e).mono sb, ok.inj⟩
  · by_cases e : a = p
    · subst e
      rw [upd_same] at q
      rw [← q]
      exact h
    · rw [upd_ne e] at q
      exact ok.le a u q
  · rw [upd_ne (ne_of_none q hz)]
    exact ok.dj a u q
  · obtain ⟨v, h1, h2⟩ := ok.sh i d e
    exact ⟨v, h1, h2.mono sb⟩
  · obtain ⟨a, u, h1, h2, h3, h4, h5⟩ := ok.ow i s e1 e2
    have ne : a ≠ p := fun z => hn i s e1 e2 (by rw [← z]; exact h1)
    exact ⟨a, u, h1, h2, by rw [upd_ne ne]; exact h3, h4, h5.mono sb⟩
/-- a new object that joins the world -/
theorem EnvOk.laid (ok : EnvOk Z B σ H ρ) {p : Addr} {o : HO} (h : H p = none) : EnvOk Z (upd B p o) σ (upd H p o) ρ :=
  (ok.junk h).freeze upd_same (ok.le.free h) (ok.lz.free h) (NotOwn.new ok h)
theorem EnvOk.zle {Z' : Zn} (ok : EnvOk Z' B σ H ρ) (e : Same Z.fr Z'.fr) (hb : Z'.bag = Z.bag) (hp : Z'.pin = Z.pin := by rfl) : EnvOk Z B σ H ρ := by
  refine ⟨ok.le, e.trans ok.lz, fun a o q => ok.dj a o (e a o q), ok.len, ok.sh, fun i s e1 e2 => ?_, fun i xs h => by rw [← hb]; exact ok.io i xs h, fun i s h => by rw [← hp]; exact ok.ad i s h, ok.inj⟩
  obtain ⟨a, u, h1, h2, h3, h4, h5⟩ := ok.ow i s e1 e2
  exact ⟨a, u, h1, h2, h3, e.free h4, h5⟩
/-- an object that nobody knows is kept -/
theorem EnvOk.keep (ok : EnvOk Z B σ H ρ) {p : Addr} {o : HO} (h : H p = some o) (hb : B p = none) (hn : NotOwn σ ρ p) : EnvOk (Z.upd p o) B σ H ρ := by
  refine ⟨ok.le, fun a u q => ?_, fun a u q => ?_, ok.len, ok.sh, fun i s e1 e2 => ?_, ok.io, ok.ad, ok.inj⟩
  · have q' : upd Z.fr p o a = some u := q
    by_cases e : a = p
    · subst e
      rw [upd_same] at q'
      rw [← q']
      exact h
    · rw [upd_ne e] at q'
      exact ok.lz a u q'
  · have q' : upd Z.fr p o a = some u := q
    by_cases e : a = p
    · subst e
      exact hb
    · rw [upd_ne e] at q'
      exact ok.dj a u q'
  · obtain ⟨a, u, h1, h2, h3, h4, h5⟩ := ok.ow i s e1 e2
    have ne : a ≠ p := fun z => hn i s e1 e2 (by rw [← z]; exact h1)
    exact ⟨a, u, h1, h2, h3, by show upd Z.fr p o a = none; rw [upd_ne ne]; exact h4, h5⟩
/-- an object outside changes -/
theorem EnvOk.other (ok : EnvOk Z B σ H ρ) {p : Addr} {o : HO} (hb : B p = none) (hz : Z.fr p = none) (hn : NotOwn σ ρ p) : EnvOk Z B σ (upd H p o) ρ := by
  refine ⟨same_upd_right ok.le hb, same_upd_right ok.lz hz, ok.dj, ok.len, ok.sh, fun i s e1 e2 => ?_, ok.io, ok.ad, ok.inj⟩
  obtain ⟨a, u, h1, h2, h3, h4, h5⟩ := ok.ow i s e1 e2
  have ne : a ≠ p := fun z => hn i s e1 e2 (by rw [← z]; exact h1)
  exact ⟨a, u, h1, by rw [upd_ne ne]; exact h2, h3, h4, h5⟩
theorem getElem?_set_cases {α : Type} {l : List α} {i j : Nat} {x y : α} (h : (l.set i x)[j]? = some y) : (j = i ∧ y = x ∧ i < l.length) ∨ (j ≠ i ∧ l[j]? = some y) := by
  by_cases e : j = i
  · subst e
    by_cases hl : j < l.length
    · rw [List.getElem?_set_self hl] at h
      cases h
      exact .inl ⟨rfl, rfl, hl⟩
    · rw [List.getElem?_eq_none (by rw [List.length_set]; omega)] at h
      cases h
  · rw [List.getElem?_set_ne (Ne.symm e)] at h
    exact .inr ⟨e, h⟩
theorem EnvOk.setSh (ok : EnvOk Z B σ H ρ) (i : Nat) {v : V} {d : PyData} (hd : Dr B v d) : EnvOk Z B (σ.set i (some v)) H (ρ.set i (.sh d)) := by
  refine ⟨ok.le, ok.lz, ok.dj, by rw [List.length_set, List.length_set]; exact ok.len, fun j e h => ?_, fun j s e1 e2 => ?_, fun j xs h => ?_, fun j w h => ?_, fun j k s t a e1 e2 e3 e4 e5 e6 => ?_⟩
  · rcases getElem?_set_cases h with ⟨rfl, h2, h3⟩ | ⟨h1, h2⟩
    · cases h2
      exact ⟨v, by rw [List.getElem?_set_self (by rw [ok.len]; exact h3)], hd⟩
    · obtain ⟨v', h3, h4⟩ := ok.sh j e h2
      exact ⟨v', by rw [List.getElem?_set_ne (Ne.symm h1)]; exact h3, h4⟩
  · rcases getElem?_set_cases e1 with ⟨rfl, h2, h3⟩ | ⟨h1, h2⟩
    · subst h2
      cases e2
    · obtain ⟨a, u, h3, h4⟩ := ok.ow j s h2 e2
      exact ⟨a, u, by rw [List.getElem?_set_ne (Ne.symm h1)]; exact h3, h4⟩
  · rcases getElem?_set_cases h with ⟨rfl, h2, h3⟩ | ⟨h1, h2⟩
    · cases h2
    · rw [List.getElem?_set_ne (Ne.symm h1)]
      exact ok.io j xs h2
  · rcases getElem?_set_cases h with ⟨rfl, h2, h3⟩ | ⟨h1, h2⟩
    · cases h2
      exact trivial
    · rw [List.getElem?_set_ne (Ne.symm h1)]
      exact ok.ad j w h2
  · rcases getElem?_set_cases e1 with ⟨rfl, h2, h3⟩ | ⟨h1, h2⟩
    · subst h2
      cases e2
    · rcases getElem?_set_cases e3 with ⟨rfl, h4, h5⟩ | ⟨h3, h4⟩
      · subst h4
        cases e4
      · rw [List.getElem?_set_ne (Ne.symm h1)] at e5
        rw [List.getElem?_set_ne (Ne.symm h3)] at e6
        exact ok.inj j k s t a h2 e2 h4 e4 e5 e6
theorem EnvOk.setOw (ok : EnvOk Z B σ H ρ) (i : Nat) {a : Addr} {o : HO} {s : Sl} (h : H a = some o) (hb : B a = none) (hz : Z.fr a = none) (hn : NotOwn σ ρ a) (hr : OwnR B o s) (hio : isIo s = true → a = Z.bag) : EnvOk Z B (σ.set i (some (.ref a))) H (ρ.set i s) := by
  have hs := hr.own
  refine ⟨ok.le, ok.lz, ok.dj, by rw [List.length_set, List.length_set]; exact ok.len, fun j e h => ?_, fun j s e1 e2 => ?_, fun j xs h => ?_, fun j w h => ?_, fun j k s t b e1 e2 e3 e4 e5 e6 => ?_⟩
  · rcases getElem?_set_cases h with ⟨rfl, h2, h3⟩ | ⟨h1, h2⟩
    · rw [← h2] at hs
      cases hs
    · obtain ⟨v', h3, h4⟩ := ok.sh j e h2
      exact ⟨v', by rw [List.getElem?_set_ne (Ne.symm h1)]; exact h3, h4⟩
  · rcases getElem?_set_cases e1 with ⟨rfl, h2, h3⟩ | ⟨h1, h2⟩
    · subst h2
      exact ⟨a, o, by rw [List.getElem?_set_self (by rw [ok.len]; exact h3)], h, hb, hz, hr⟩
    · obtain ⟨a, u, h3, h4⟩ := ok.ow j s h2 e2
      exact ⟨a, u, by rw [List.getElem?_set_ne (Ne.symm h1)]; exact h3, h4⟩
  · rcases getElem?_set_cases h with ⟨rfl, h2, h3⟩ | ⟨h1, h2⟩
    · rw [List.getElem?_set_self (by rw [ok.len]; exact h3), ← hio (by rw [← h2]; rfl)]
    · rw [List.getElem?_set_ne (Ne.symm h1)]
      exact ok.io j xs h2
  · rcases getElem?_set_cases h with ⟨rfl, h2, h3⟩ | ⟨h1, h2⟩
    · rw [h2]
      exact adR_own hs
    · rw [List.getElem?_set_ne (Ne.symm h1)]
      exact ok.ad j w h2
  · rcases getElem?_set_cases e1 with ⟨rfl, h2, h3⟩ | ⟨h1, h2⟩
    · rcases getElem?_set_cases e3 with ⟨rfl, h4, h5⟩ | ⟨h3', h4⟩
      · rfl
      · rw [List.getElem?_set_self (by rw [ok.len]; exact h3)] at e5
        cases e5
        rw [List.getElem?_set_ne (Ne.symm h3')] at e6
        exact (hn k t h4 e4 e6).elim
    · rcases getElem?_set_cases e3 with ⟨rfl, h4, h5⟩ | ⟨h3, h4⟩
      · rw [List.getElem?_set_self (by rw [ok.len]; exact h5)] at e6
        cases e6
        rw [List.getElem?_set_ne (Ne.symm h1)] at e5
        exact (hn j s h2 e2 e5).elim
      · rw [List.getElem?_set_ne (Ne.symm h1)] at e5
        rw [List.getElem?_set_ne (Ne.symm h3)] at e6
        exact ok.inj j k s t b h2 e2 h4 e4 e5 e6
/-- an own object changes -/
theorem EnvOk.mut (ok : EnvOk Z B σ H ρ) {i : Nat} {a : Addr} {s s' : Sl} {o' : HO} (h1 : ρ[i]? = some s) (h2 : isOwn s = true) (h3 : σ[i]? = some (some (.ref a))) (hr : OwnR B o' s') (hio : isIo s' = true → a = Z.bag := by first | exact (fun z => nomatch z) | assumption) : EnvOk Z B σ (upd H a o') (ρ.set i s') := by
  have hs := hr.own
  obtain ⟨a2, o2, q1, q2, q3, q4, q5⟩ := ok.ow i s h1 h2
  rw [h3] at q1
  cases q1
  have hi : i < ρ.length := (List.getElem?_eq_some_iff.mp h1).1
  refine ⟨same_upd_right ok.le q3, same_upd_right ok.lz q4, ok.dj, by rw [List.length_set]; exact ok.len, fun j e h => ?_, fun j t e1 e2 => ?_, fun j xs h => ?_, fun j w h => ?_, fun j k t u b e1 e2 e3 e4 e5 e6 => ?_⟩
  · rcases getElem?_set_cases h with ⟨rfl, z2, z3⟩ | ⟨z1, z2⟩
    · rw [← z2] at hs
      cases hs
    · exact ok.sh j e z2
  · rcases getElem?_set_cases e1 with ⟨rfl, z2, z3⟩ | ⟨z1, z2⟩
    · subst z2
      exact ⟨a, o', h3, upd_same, q3, q4, hr⟩
    · obtain ⟨b, u, y1, y2, y3⟩ := ok.ow j t z2 e2
      have ne : b ≠ a := fun z => z1 (ok.inj j i t s a z2 e2 h1 h2 (by rw [← z]; exact y1) h3)
      exact ⟨b, u, y1, by rw [upd_ne ne]; exact y2, y3⟩
  · rcases getElem?_set_cases h with ⟨rfl, z2, z3⟩ | ⟨z1, z2⟩
    · rw [h3, ← hio (by rw [← z2]; rfl)]
    · exact ok.io j xs z2
  · rcases getElem?_set_cases h with ⟨rfl, z2, z3⟩ | ⟨z1, z2⟩
    · rw [z2]
      exact adR_own hs
    · exact ok.ad j w z2
  · have hj : ∃ t', ρ[j]? = some t' ∧ isOwn t' = true := by
      rcases getElem?_set_cases e1 with ⟨rfl, z2, z3⟩ | ⟨z1, z2⟩
      · exact ⟨s, h1, h2⟩
      · exact ⟨t, z2, e2⟩
    have hk : ∃ t', ρ[k]? = some t' ∧ isOwn t' = true := by
      rcases getElem?_set_cases e3 with ⟨rfl, z2, z3⟩ | ⟨z1, z2⟩
      · exact ⟨s, h1, h2⟩
      · exact ⟨u, z2, e4⟩
    obtain ⟨t1, y1, y2⟩ := hj
    obtain ⟨t2, y3, y4⟩ := hk
    exact ok.inj j k t1 t2 b y1 y2 y3 y4 e5 e6
/-- forgetting -/
theorem EnvOk.forget (ok : EnvOk Z B σ H ρ) (i : Nat) : EnvOk Z B σ H (ρ.set i .un) := by
  refine ⟨ok.le, ok.lz, ok.dj, by rw [List.length_set]; exact ok.len, fun j e h => ?_, fun j s e1 e2 => ?_, fun j xs h => ?_, fun j w h => ?_, fun j k s t b e1 e2 e3 e4 e5 e6 => ?_⟩
  · rcases getElem?_set_cases h with ⟨rfl, z2, z3⟩ | ⟨z1, z2⟩
    · cases z2
    · exact ok.sh j e z2
  · rcases getElem?_set_cases e1 with ⟨rfl, z2, z3⟩ | ⟨z1, z2⟩
    · subst z2
      cases e2
    · exact ok.ow j s z2 e2
  · rcases getElem?_set_cases h with ⟨rfl, z2, z3⟩ | ⟨z1, z2⟩
    · cases z2
    · exact ok.io j xs z2
  · rcases getElem?_set_cases h with ⟨rfl, z2, z3⟩ | ⟨z1, z2⟩
    · cases z2
      exact trivial
    · exact ok.ad j w z2
  · rcases getElem?_set_cases e1 with ⟨rfl, z2, z3⟩ | ⟨z1, z2⟩
    · subst z2
      cases e2
    · rcases getElem?_set_cases e3 with ⟨rfl, y2, y3⟩ | ⟨y1, y2⟩
      · subst y2
        cases e4
      · exact ok.inj j k s t b z2 e2 y2 e4 e5 e6
/-- an own slot turned into shared data -/
theorem EnvOk.share (ok : EnvOk Z B σ H ρ) {i : Nat} {xs : List PyData} (h1 : ρ[i]? = some (.ow xs)) : ∃ a vs, σ[i]? = some (some (.ref a)) ∧ H a = some (.lst vs) ∧ B a = none ∧ Z.fr a = none ∧ DrAll B vs xs ∧
    EnvOk Z (upd B a (.lst vs)) σ H (ρ.set i (.sh (.list xs))) := by
  obtain ⟨a, o, q1, q2, q3, q4, q5⟩ := ok.ow i _ h1 rfl
  cases o with
  | lst vs =>
    have sb : Same B (upd B a (.lst vs)) := same_upd_new q3
    have f1 := ok.forget i
    have hn : NotOwn σ (ρ.set i .un) a := fun j s e1 e2 e3 => by
      rcases getElem?_set_cases e1 with ⟨rfl, z2, z3⟩ | ⟨z1, z2⟩
      · subst z2
        cases e2
      · exact z1 (ok.inj j i s _ a z2 e2 h1 rfl e3 q1)
    have f2 := f1.freeze q2 q3 q4 hn
    have f3 := f2.setSh i (v := .ref a) (d := .list xs) (.lst (upd_same) (DrAll.mono q5 sb))
    have e1 : σ.set i (some (V.ref a)) = σ := by
      apply List.ext_getElem?
      intro j
      by_cases e : j = i
      · subst e
        have hl : j < σ.length := (List.getElem?_eq_some_iff.mp q1).1
        rw [List.getElem?_set_self hl, q1]
      · rw [List.getElem?_set_ne (Ne.symm e)]
    have e2 : (ρ.set i Sl.un).set i (.sh (.list xs)) = ρ.set i (.sh (.list xs)) := List.set_set ..
    rw [e1, e2] at f3
    exact ⟨a, vs, q1, q2, q3, q4, q5, f3⟩
  | _ => exact q5.elim
end

/-! GExpr: expressions, each with its pure function. -/

/-- a result: shared data, or a new object that nobody else knows -/
def RepR (Z : Zn) (B H : Hp) (NO : Addr → Prop) (v : V) (s : Sl) : Prop :=
  (∃ d, s = .sh d ∧ Dr B v d) ∨ (∃ a o, v = .ref a ∧ H a = some o ∧ B a = none ∧ Z.fr a = none ∧ NO a ∧ OwnR B o s ∧ isIo s = false)
abbrev FE := En → Option (PyData × En)
abbrev FR := En → Option (Sl × En)
abbrev FT := En → Option (Bool × En)
abbrev FA := En → Option (List PyData × En)
def tE (f : FE) : TE := fun σ H Q => ∃ Z B ρ d ρ', EnvOk Z B σ H ρ ∧ f ρ = some (d, ρ') ∧ ∀ B' H' v, Same B B' → EnvOk Z B' σ H' ρ' → Dr B' v d → Q v H'
def tR (f : FR) : TE := fun σ H Q => ∃ Z B ρ s ρ', EnvOk Z B σ H ρ ∧ f ρ = some (s, ρ') ∧ ∀ B' H' v, Same B B' → EnvOk Z B' σ H' ρ' → RepR Z B' H' (NotOwn σ ρ') v s → Q v H'
def tT (f : FT) : TT := fun σ H Q => ∃ Z B ρ b ρ', EnvOk Z B σ H ρ ∧ f ρ = some (b, ρ') ∧ ∀ B' H', Same B B' → EnvOk Z B' σ H' ρ' → Q b H'
def tA (f : FA) : TA := fun σ H Q => ∃ Z B ρ ds ρ', EnvOk Z B σ H ρ ∧ f ρ = some (ds, ρ') ∧ ∀ B' H' vs, Same B B' → EnvOk Z B' σ H' ρ' → DrAll B' vs ds → Q vs H'
abbrev DE (X : Cx) (e : Expr) (f : FE) := PE X e (tE f)
abbrev DR (X : Cx) (e : Expr) (f : FR) := PE X e (tR f)
abbrev DT (X : Cx) (e : Expr) (f : FT) := PT X e (tT f)
abbrev DW (X : Cx) (e : Expr) (f : FT) := PW X e (tT f)
abbrev DA (X : Cx) (es : List Expr) (f : FA) := PA X es (tA f)

theorem pe_imp {X : Cx} {e : Expr} {t t' : TE} (h : PE X e t) (i : ∀ σ H Q, t' σ H Q → t σ H Q) : PE X e t' := ⟨fun pins s σ H Q I q => h.run pins s σ H Q I (i σ H Q q)⟩
theorem pt_imp {X : Cx} {e : Expr} {t t' : TT} (h : PT X e t) (i : ∀ σ H Q, t' σ H Q → t σ H Q) : PT X e t' := ⟨fun pins s σ H Q I q => h.run pins s σ H Q I (i σ H Q q)⟩
theorem pw_imp {X : Cx} {e : Expr} {t t' : TT} (h : PW X e t) (i : ∀ σ H Q, t' σ H Q → t σ H Q) : PW X e t' := ⟨fun wh pins s σ H Q I q => h.run wh pins s σ H Q I (i σ H Q q)⟩
theorem pa_imp {X : Cx} {es : List Expr} {t t' : TA} (h : PA X es t) (i : ∀ σ H Q, t' σ H Q → t σ H Q) : PA X es t' := ⟨fun pos pins s σ H Q I q => h.run pos pins s σ H Q I (i σ H Q q)⟩

/-! ### between shared and new -/
def fzS : Sl → Option PyData
  | .sh d => some d
  | .ow xs => some (.list xs)
  | _ => none
/-- a new list given away -/
def fFz (f : FR) : FE := fun ρ => (f ρ).bind fun p => (fzS p.1).map fun d => (d, p.2)
def fSh (f : FE) : FR := fun ρ => (f ρ).map fun p => (.sh p.1, p.2)
theorem dr_sh {X : Cx} {e : Expr} {f : FE} (h : DE X e f) : DR X e (fSh f) := pe_imp h fun σ H Q ⟨Z, B, ρ, s, ρ', ok, e, q⟩ => by
  unfold fSh at e
  obtain ⟨⟨d, ρ1⟩, e1, e2⟩ := Option.map_eq_some_iff.mp e
  cases e2
  exact ⟨Z, B, ρ, d, ρ1, ok, e1, fun B' H' v s1 ok1 dv => q B' H' v s1 ok1 (.inl ⟨d, rfl, dv⟩)⟩
theorem RepR.share {Z : Zn} {B : Hp} {σ : L2.St} {H : Hp} {ρ : En} {v : V} {s : Sl} {d : PyData} (ok : EnvOk Z B σ H ρ) (r : RepR Z B H (NotOwn σ ρ) v s) (e : fzS s = some d) : ∃ B', Same B B' ∧ EnvOk Z B' σ H ρ ∧ Dr B' v d := by
  rcases r with ⟨d', rfl, r⟩ | ⟨a, o, rfl, h1, h2, h3, h4, h5, _⟩
  · cases e
    exact ⟨B, Same.refl B, ok, r⟩
  · cases s with
    | ow xs =>
      cases e
      cases o with
      | lst vs =>
        have sb : Same B (upd B a (.lst vs)) := same_upd_new h2
        exact ⟨_, sb, ok.freeze h1 h2 h3 h4, .lst upd_same (DrAll.mono h5 sb)⟩
      | _ => exact h5.elim
    | sh d => cases (h5.own : isOwn (.sh d) = true)
    | _ => cases e
theorem de_fz {X : Cx} {e : Expr} {f : FR} (h : DR X e f) : DE X e (fFz f) := pe_imp h fun σ H Q ⟨Z, B, ρ, d, ρ', ok, e, q⟩ => by
  unfold fFz at e
  obtain ⟨⟨s, ρ1⟩, e1, e2⟩ := Option.bind_eq_some_iff.mp e
  obtain ⟨d', e3, e4⟩ := Option.map_eq_some_iff.mp e2
  cases e4
  refine ⟨Z, B, ρ, s, ρ1, ok, e1, fun B' H' v s1 ok1 r => ?_⟩
  obtain ⟨B2, s2, ok2, dv⟩ := RepR.share ok1 r e3
  exact q B2 H' v (s1.trans s2) ok2 dv

/-! ### names, constants -/
/-- an own list that is read by its name becomes shared -/
def fVar (i : Nat) : FE := fun ρ => match ρ[i]? with
  | some (.sh d) => some (d, ρ)
  | some (.ow xs) => some (.list xs, ρ.set i (.sh (.list xs)))
  | _ => none
def fC (d : PyData) : FE := fun ρ => some (d, ρ)
section
variable {X : Cx} {a b c e : Expr} {es : List Expr} {f g h : FE} {pos : Pos}
theorem de_of {t : TE} (p : PE X e t) (i : ∀ σ H Q Z B ρ d ρ', EnvOk Z B σ H ρ → f ρ = some (d, ρ') → (∀ B' H' v, Same B B' → EnvOk Z B' σ H' ρ' → Dr B' v d → Q v H') → t σ H Q) : DE X e f :=
  pe_imp p fun σ H Q ⟨Z, B, ρ, d, ρ', ok, e, q⟩ => i σ H Q Z B ρ d ρ' ok e q
theorem de_var (i : Nat) {x : Str} (hN : X.N[i]? = some x := by rfl) (hv : Vis X.env.scope x := by first | exact Or.inl rfl | exact Or.inr (Or.inl rfl) | exact Or.inr (Or.inr rfl)) (hd : (x == ("__debug__" : Str)) = false := by decide)
    (hcd : (x == ("__classdict__" : Str)) = false := by decide) : DE X (.Name x pos) (fVar i) := de_of (pe_var hN hv hd hcd) fun σ H Q Z B ρ d ρ' ok e q => by
  unfold fVar at e
  split at e
  · rename_i d' h1
    cases e
    obtain ⟨v, h2, h3⟩ := ok.sh i d h1
    exact ⟨v, h2, q B H v (Same.refl B) ok h3⟩
  · rename_i xs h1
    cases e
    obtain ⟨a, vs, h2, h3, h4, h5, h6, ok2⟩ := ok.share h1
    have sb : Same B (upd B a (.lst vs)) := same_upd_new h4
    exact ⟨.ref a, h2, q _ H _ sb ok2 (.lst upd_same (h6.mono sb))⟩
  · cases e
theorem de_c {v : V} {d : PyData} (p : PE X e (tC v)) (hd : ∀ B, Dr B v d) : DE X e (fC d) := de_of p fun σ H Q Z B ρ d' ρ' ok e q => by
  cases e
  exact q B H v (Same.refl B) ok (hd B)
theorem de_int {i j} : DE X (.Constant (.int i) j pos) (fC (.int i)) := de_c pe_int fun _ => .int i
theorem de_bl {i j} : DE X (.Constant (.bool i) j pos) (fC (.bool i)) := de_c pe_bl fun _ => .bl i
theorem de_non {j} : DE X (.Constant .none j pos) (fC .none) := de_c pe_non fun _ => .non
theorem de_str {i j} : DE X (.Constant (.str i) j pos) (fC (.str i)) := de_c pe_str fun _ => .str i
theorem de_gint {x : Str} {i : Int} (hm : ∃ t, X.mg x = some (.int i t)) (hg : Gl X x := by rfl) (hd : (x == ("__debug__" : Str)) = false := by decide) : DE X (.Name x pos) (fC (.int i)) := by
  obtain ⟨t, hm⟩ := hm
  exact de_c (v := .int i) (pe_glob hg hm ⟨t, rfl⟩ hd) fun _ => .int i

/-! ### argument lists -/
def fNil : FA := fun ρ => some ([], ρ)
def fCons (f : FE) (g : FA) : FA := fun ρ => (f ρ).bind fun p => (g p.2).map fun q => (p.1 :: q.1, q.2)
theorem da_nil : DA X [] fNil := pa_imp pa_nil fun σ H Q ⟨Z, B, ρ, ds, ρ', ok, e, q⟩ => by
  cases e
  exact q B H [] (Same.refl B) ok .nil
theorem da_cons {g : FA} (ha : DE X e f) (hr : DA X es g) (hs : starEach (e :: es) X.env = (false, eval e X.env) :: starEach es X.env := by rfl) : DA X (e :: es) (fCons f g) := pa_imp (pa_cons ha hr hs) fun σ H Q ⟨Z, B, ρ, ds, ρ', ok, e, q⟩ => by
  unfold fCons at e
  obtain ⟨⟨d, ρ1⟩, e1, e2⟩ := Option.bind_eq_some_iff.mp e
  obtain ⟨⟨ds', ρ2⟩, e3, e4⟩ := Option.map_eq_some_iff.mp e2
  cases e4
  exact ⟨Z, B, ρ, d, ρ1, ok, e1, fun B1 H1 v s1 ok1 dv => ⟨Z, B1, ρ1, ds', ρ2, ok1, e3, fun B2 H2 vs s2 ok2 dvs => q B2 H2 (v :: vs) (s1.trans s2) ok2 (.cons (dv.mono s2) dvs)⟩⟩

/-! ### operators by values -/
/-- what an operation on values gives, told by data -/
def OpD (r : R2) (h : PyData → PyData → Option PyData) : Prop := ∀ (Z : Zn) (B : Hp) (σ : L2.St) (H : Hp) (ρ : En) (x y : V) (d e z : PyData), EnvOk Z B σ H ρ → Dr B x d → Dr B y e → h d e = some z →
  ∀ Q : VK, (∀ B' H' v, Same B B' → EnvOk Z B' σ H' ρ → Dr B' v z → Q v H') → r x y H Q
def fBin (h : PyData → PyData → Option PyData) (f g : FE) : FE := fun ρ => (f ρ).bind fun p => (g p.2).bind fun q => (h p.1 q.1).map fun z => (z, q.2)
theorem tOp_of {r : R2} {hh : PyData → PyData → Option PyData} (hr : OpD r hh) : ∀ σ H Q, tE (fBin hh f g) σ H Q → tOp r (tE f) (tE g) σ H Q := fun σ H Q ⟨Z, B, ρ, d, ρ', ok, e, q⟩ => by
  unfold fBin at e
  obtain ⟨⟨d1, ρ1⟩, e1, e2⟩ := Option.bind_eq_some_iff.mp e
  obtain ⟨⟨d2, ρ2⟩, e3, e4⟩ := Option.bind_eq_some_iff.mp e2
  obtain ⟨z, e5, e6⟩ := Option.map_eq_some_iff.mp e4
  cases e6
  exact ⟨Z, B, ρ, d1, ρ1, ok, e1, fun B1 H1 x s1 ok1 dx => ⟨Z, B1, ρ1, d2, _, ok1, e3, fun B2 H2 y s2 ok2 dy => hr Z B2 σ H2 _ x y d1 d2 _ ok2 (dx.mono s2) dy e5 Q fun B3 H3 v s3 ok3 dv => q B3 H3 v (s1.trans (s2.trans s3)) ok3 dv⟩⟩
theorem de_op {op : Operator} {r : R2} {hh : PyData → PyData → Option PyData} (ho : OpR X (binaryOp op) r) (hr : OpD r hh) (ha : DE X a f) (hb : DE X b g) : DE X (.BinOp a op b pos) (fBin hh f g) := pe_imp (pe_op ho ha hb) (tOp_of hr)
theorem de_cmpR {op : CmpOp} {r : R2} {hh : PyData → PyData → Option PyData} (ho : OpR X (compareOp op) r) (hr : OpD r hh) (ha : DE X a f) (hb : DE X b g) (hm : behindInMarks op b = false) : DE X (.Compare a [op] [b] pos) (fBin hh f g) := pe_imp (pe_cmpR ho ha hb hm) (tOp_of hr)
/-- a test out of a value -/
def blD : PyData → Option Bool
  | .bool b => some b
  | _ => none
def fB (f : FE) : FT := fun ρ => (f ρ).bind fun p => (blD p.1).map fun b => (b, p.2)
theorem tB_of {t : TE} (i : ∀ σ H Q, tE f σ H Q → t σ H Q) : ∀ σ H Q, tT (fB f) σ H Q → (fun σ H Q => t σ H fun x H1 => ∃ c, x = V.bl c ∧ Q c H1 : TT) σ H Q := fun σ H Q ⟨Z, B, ρ, b, ρ', ok, e, q⟩ => by
  unfold fB at e
  obtain ⟨⟨d, ρ1⟩, e1, e2⟩ := Option.bind_eq_some_iff.mp e
  obtain ⟨b', e3, e4⟩ := Option.map_eq_some_iff.mp e2
  cases e4
  refine i σ H _ ⟨Z, B, ρ, d, _, ok, e1, fun B' H' v s1 ok1 dv => ?_⟩
  cases d with
  | bool c =>
    cases e3
    cases dv
    exact ⟨b, rfl, q B' H' s1 ok1⟩
  | _ => cases e3
theorem dt_cmpR {op : CmpOp} {r : R2} {hh : PyData → PyData → Option PyData} (ho : OpR X (compareOp op) r) (hr : OpD r hh) (ha : DE X a f) (hb : DE X b g) (hm : behindInMarks op b = false) : DT X (.Compare a [op] [b] pos) (fB (fBin hh f g)) :=
  pt_imp (pt_cmpR ho ha hb hm) (tB_of (tOp_of hr))
theorem dt_val (he : DE X e f) (hw : ∀ whole, isTrue e X.env whole = (do let v ← whole; standAt e.pos; holding [v] (truthy v)) := by intro _; rfl) : DT X e (fB f) := pt_imp (pt_val he hw) (tB_of fun _ _ _ q => q)
/-- a chain of two comparisons -/
def fChain (h1 h2 : PyData → PyData → Option PyData) (f g k : FE) : FE := fun ρ => (f ρ).bind fun p => (g p.2).bind fun q => (h1 p.1 q.1).bind fun z => match z with
  | .bool true => (k q.2).bind fun r => (h2 q.1 r.1).map fun w => (w, r.2)
  | .bool false => some (.bool false, q.2)
  | _ => none
theorem tChain_of {r r' : R2} {h1 h2 : PyData → PyData → Option PyData} (hr : OpD r h1) (hr' : OpD r' h2) : ∀ σ H Q, tE (fChain h1 h2 f g h) σ H Q → tChain r r' (tE f) (tE g) (tE h) σ H Q := fun σ H Q ⟨Z, B, ρ, d, ρ', ok, e, q⟩ => by
  unfold fChain at e
  obtain ⟨⟨d1, ρ1⟩, e1, e2⟩ := Option.bind_eq_some_iff.mp e
  obtain ⟨⟨d2, ρ2⟩, e3, e4⟩ := Option.bind_eq_some_iff.mp e2
  obtain ⟨z, e5, e6⟩ := Option.bind_eq_some_iff.mp e4
  refine ⟨Z, B, ρ, d1, ρ1, ok, e1, fun B1 H1 x s1 ok1 dx => ⟨Z, B1, ρ1, d2, _, ok1, e3, fun B2 H2 y s2 ok2 dy => hr Z B2 σ H2 _ x y d1 d2 _ ok2 (dx.mono s2) dy e5 _ fun B3 H3 v s3 ok3 dv => ?_⟩⟩
  cases z with
  | bool c =>
    cases dv
    refine ⟨c, rfl, ?_⟩
    cases c with
    | true =>
      rw [if_pos rfl]
      obtain ⟨⟨d3, ρ3⟩, e7, e8⟩ := Option.bind_eq_some_iff.mp e6
      obtain ⟨w, e9, e10⟩ := Option.map_eq_some_iff.mp e8
      cases e10
      exact ⟨Z, B3, ρ2, d3, _, ok3, e7, fun B4 H4 u s4 ok4 du => hr' Z B4 σ H4 _ y u d2 d3 _ ok4 (dy.mono (s3.trans s4)) du e9 Q fun B5 H5 v5 s5 ok5 dv5 => q B5 H5 v5 (s1.trans (s2.trans (s3.trans (s4.trans s5)))) ok5 dv5⟩
    | false =>
      rw [if_neg Bool.false_ne_true]
      cases e6
      exact q B3 H3 _ (s1.trans (s2.trans s3)) ok3 (.bl false)
  | _ => cases e6
theorem de_chain {op op' : CmpOp} {r r' : R2} {h1 h2 : PyData → PyData → Option PyData} (ho : OpR X (compareOp op) r) (hr : OpD r h1) (ho' : OpR X (compareOp op') r') (hr' : OpD r' h2) (ha : DE X a f) (hb : DE X b g) (hc : DE X c h)
    (hm : lastMarks [op, op'] [b, c] = false := by with_unfolding_all rfl) : DE X (.Compare a [op, op'] [b, c] pos) (fChain h1 h2 f g h) := pe_imp (pe_chain ho ho' ha hb hc hm) (tChain_of hr hr')
theorem dt_chain {op op' : CmpOp} {r r' : R2} {h1 h2 : PyData → PyData → Option PyData} (ho : OpR X (compareOp op) r) (hr : OpD r h1) (ho' : OpR X (compareOp op') r') (hr' : OpD r' h2) (ha : DE X a f) (hb : DE X b g) (hc : DE X c h)
    (hm : lastMarks [op, op'] [b, c] = false := by with_unfolding_all rfl) : DT X (.Compare a [op, op'] [b, c] pos) (fB (fChain h1 h2 f g h)) := pt_imp (pt_chain ho ho' ha hb hc hm) (tB_of (tChain_of hr hr'))
/-- one place -/
def fUn (h : PyData → Option PyData) (f : FE) : FE := fun ρ => (f ρ).bind fun p => (h p.1).map fun z => (z, p.2)
def hNeg : PyData → Option PyData
  | .int i => some (.int (-i))
  | _ => none
theorem de_neg (ha : DE X a f) : DE X (.UnaryOp .USub a pos) (fUn hNeg f) := pe_imp (pe_un un_neg ha) fun σ H Q ⟨Z, B, ρ, d, ρ', ok, e, q⟩ => by
  unfold fUn at e
  obtain ⟨⟨d1, ρ1⟩, e1, e2⟩ := Option.bind_eq_some_iff.mp e
  obtain ⟨z, e3, e4⟩ := Option.map_eq_some_iff.mp e2
  cases e4
  refine ⟨Z, B, ρ, d1, ρ1, ok, e1, fun B1 H1 x s1 ok1 dx => ?_⟩
  cases d1 with
  | int i =>
    cases e3
    cases dx
    exact ⟨i, rfl, q B1 H1 _ s1 ok1 (.int _)⟩
  | _ => cases e3

/-! ### and, or, not, if -/
def fAndT (f g : FT) : FT := fun ρ => (f ρ).bind fun p => if p.1 = true then g p.2 else some (false, p.2)
def fOrT (f g : FT) : FT := fun ρ => (f ρ).bind fun p => if p.1 = true then some (true, p.2) else g p.2
def fNotT (f : FT) : FT := fun ρ => (f ρ).map fun p => (!p.1, p.2)
variable {u v : FT} {rest : List Expr}
theorem dw_and1 (ha : DT X a u) : DW X (.BoolOp .And [a] pos) u := pw_and1 ha
theorem dw_or1 (ha : DT X a u) : DW X (.BoolOp .Or [a] pos) u := pw_or1 ha
theorem dw_and (ha : DT X a u) (hb : DW X (.BoolOp .And (b :: rest) pos) v) : DW X (.BoolOp .And (a :: b :: rest) pos) (fAndT u v) := pw_imp (pw_and ha hb) fun σ H Q ⟨Z, B, ρ, d, ρ', ok, e, q⟩ => by
  unfold fAndT at e
  obtain ⟨⟨c, ρ1⟩, e1, e2⟩ := Option.bind_eq_some_iff.mp e
  refine ⟨Z, B, ρ, c, ρ1, ok, e1, fun B1 H1 s1 ok1 => ?_⟩
  cases c with
  | true =>
    rw [if_pos rfl] at e2 ⊢
    exact ⟨Z, B1, ρ1, d, ρ', ok1, e2, fun B2 H2 s2 ok2 => q B2 H2 (s1.trans s2) ok2⟩
  | false =>
    rw [if_neg Bool.false_ne_true] at e2 ⊢
    cases e2
    exact q B1 H1 s1 ok1
theorem dw_or (ha : DT X a u) (hb : DW X (.BoolOp .Or (b :: rest) pos) v) : DW X (.BoolOp .Or (a :: b :: rest) pos) (fOrT u v) := pw_imp (pw_or ha hb) fun σ H Q ⟨Z, B, ρ, d, ρ', ok, e, q⟩ => by
  unfold fOrT at e
  obtain ⟨⟨c, ρ1⟩, e1, e2⟩ := Option.bind_eq_some_iff.mp e
  refine ⟨Z, B, ρ, c, ρ1, ok, e1, fun B1 H1 s1 ok1 => ?_⟩
  cases c with
  | false =>
    rw [if_neg Bool.false_ne_true] at e2 ⊢
    exact ⟨Z, B1, ρ1, d, ρ', ok1, e2, fun B2 H2 s2 ok2 => q B2 H2 (s1.trans s2) ok2⟩
  | true =>
    rw [if_pos rfl] at e2 ⊢
    cases e2
    exact q B1 H1 s1 ok1
theorem dt_w (h : DW X e u) : DT X e u := h.pt
theorem dt_not (ha : DT X a u) : DT X (.UnaryOp .Not a pos) (fNotT u) := pt_imp (pt_not ha) fun σ H Q ⟨Z, B, ρ, d, ρ', ok, e, q⟩ => by
  unfold fNotT at e
  obtain ⟨⟨c, ρ1⟩, e1, e2⟩ := Option.map_eq_some_iff.mp e
  cases e2
  exact ⟨Z, B, ρ, c, _, ok, e1, fun B1 H1 s1 ok1 => q B1 H1 s1 ok1⟩
def fAndV (f g : FE) : FE := fun ρ => (f ρ).bind fun p => match p.1 with
  | .bool true => g p.2
  | .bool false => some (.bool false, p.2)
  | _ => none
def fOrV (f g : FE) : FE := fun ρ => (f ρ).bind fun p => match p.1 with
  | .bool false => g p.2
  | .bool true => some (.bool true, p.2)
  | _ => none
def hNot : PyData → Option PyData
  | .bool b => some (.bool (!b))
  | _ => none
theorem de_one {op} (h : DE X a f) : DE X (.BoolOp op [a] pos) f := pe_one h
theorem de_and (ha : DE X a f) (hb : DE X (.BoolOp .And (b :: rest) pos) g) : DE X (.BoolOp .And (a :: b :: rest) pos) (fAndV f g) := pe_imp (pe_and ha hb) fun σ H Q ⟨Z, B, ρ, d, ρ', ok, e, q⟩ => by
  unfold fAndV at e
  obtain ⟨⟨c, ρ1⟩, e1, e2⟩ := Option.bind_eq_some_iff.mp e
  refine ⟨Z, B, ρ, c, ρ1, ok, e1, fun B1 H1 x s1 ok1 dx => ?_⟩
  split at e2
  · rename_i h1
    cases h1
    cases dx
    exact ⟨true, rfl, by rw [if_pos rfl]; exact ⟨Z, B1, ρ1, d, ρ', ok1, e2, fun B2 H2 v s2 ok2 dv => q B2 H2 v (s1.trans s2) ok2 dv⟩⟩
  · rename_i h1
    cases h1
    cases dx
    cases e2
    exact ⟨false, rfl, by rw [if_neg Bool.false_ne_true]; exact q B1 H1 _ s1 ok1 (.bl false)⟩
  · cases e2
theorem de_or (ha : DE X a f) (hb : DE X (.BoolOp .Or (b :: rest) pos) g) : DE X (.BoolOp .Or (a :: b :: rest) pos) (fOrV f g) := pe_imp (pe_or ha hb) fun σ H Q ⟨Z, B, ρ, d, ρ', ok, e, q⟩ => by
  unfold fOrV at e
  obtain ⟨⟨c, ρ1⟩, e1, e2⟩ := Option.bind_eq_some_iff.mp e
  refine ⟨Z, B, ρ, c, ρ1, ok, e1, fun B1 H1 x s1 ok1 dx => ?_⟩
  split at e2
  · rename_i h1
    cases h1
    cases dx
    exact ⟨false, rfl, by rw [if_neg Bool.false_ne_true]; exact ⟨Z, B1, ρ1, d, ρ', ok1, e2, fun B2 H2 v s2 ok2 dv => q B2 H2 v (s1.trans s2) ok2 dv⟩⟩
  · rename_i h1
    cases h1
    cases dx
    cases e2
    exact ⟨true, rfl, by rw [if_pos rfl]; exact q B1 H1 _ s1 ok1 (.bl true)⟩
  · cases e2
theorem de_not (ha : DE X a f) : DE X (.UnaryOp .Not a pos) (fUn hNot f) := pe_imp (pe_not ha) fun σ H Q ⟨Z, B, ρ, d, ρ', ok, e, q⟩ => by
  unfold fUn at e
  obtain ⟨⟨d1, ρ1⟩, e1, e2⟩ := Option.bind_eq_some_iff.mp e
  obtain ⟨z, e3, e4⟩ := Option.map_eq_some_iff.mp e2
  cases e4
  refine ⟨Z, B, ρ, d1, ρ1, ok, e1, fun B1 H1 x s1 ok1 dx => ?_⟩
  cases d1 with
  | bool i =>
    cases e3
    cases dx
    exact ⟨i, rfl, q B1 H1 _ s1 ok1 (.bl _)⟩
  | _ => cases e3
def fIfE (c : FT) (f g : FE) : FE := fun ρ => (c ρ).bind fun p => if p.1 = true then f p.2 else g p.2
theorem de_if {c : Expr} (hc : DT X c u) (ha : DE X a f) (hb : DE X b g) : DE X (.IfExp c a b pos) (fIfE u f g) := pe_imp (pe_ifExp hc ha hb) fun σ H Q ⟨Z, B, ρ, d, ρ', ok, e, q⟩ => by
  unfold fIfE at e
  obtain ⟨⟨c, ρ1⟩, e1, e2⟩ := Option.bind_eq_some_iff.mp e
  refine ⟨Z, B, ρ, c, ρ1, ok, e1, fun B1 H1 s1 ok1 => ?_⟩
  cases c with
  | true =>
    rw [if_pos rfl] at e2 ⊢
    exact ⟨Z, B1, ρ1, d, ρ', ok1, e2, fun B2 H2 v s2 ok2 dv => q B2 H2 v (s1.trans s2) ok2 dv⟩
  | false =>
    rw [if_neg Bool.false_ne_true] at e2 ⊢
    exact ⟨Z, B1, ρ1, d, ρ', ok1, e2, fun B2 H2 v s2 ok2 dv => q B2 H2 v (s1.trans s2) ok2 dv⟩

/-! ### displays -/
def fTup (f : FA) : FE := fun ρ => (f ρ).bind fun p => if p.1.length ≤ 16777216 then some (.tuple p.1, p.2) else none
def fLst (f : FA) : FR := fun ρ => (f ρ).bind fun p => if p.1.length ≤ 16777216 then some (.ow p.1, p.2) else none
theorem lay_tup {Z : Zn} {B : Hp} {σ : L2.St} {H : Hp} {ρ : En} {vs : List V} {ds : List PyData} {p : Addr} (ok : EnvOk Z B σ H ρ) (dv : DrAll B vs ds) (hp : H p = none) :
    Same B (upd B p (.tup vs)) ∧ EnvOk Z (upd B p (.tup vs)) σ (upd H p (.tup vs)) ρ ∧ Dr (upd B p (.tup vs)) (.ref p) (.tuple ds) := by
  have sb : Same B (upd B p (.tup vs)) := same_upd_new (ok.le.free hp)
  exact ⟨sb, ok.laid hp, .tup upd_same (dv.mono sb)⟩
theorem lay_lst {Z : Zn} {B : Hp} {σ : L2.St} {H : Hp} {ρ : En} {vs : List V} {ds : List PyData} {p : Addr} (ok : EnvOk Z B σ H ρ) (dv : DrAll B vs ds) (hp : H p = none) :
    Same B (upd B p (.lst vs)) ∧ EnvOk Z (upd B p (.lst vs)) σ (upd H p (.lst vs)) ρ ∧ Dr (upd B p (.lst vs)) (.ref p) (.list ds) := by
  have sb : Same B (upd B p (.lst vs)) := same_upd_new (ok.le.free hp)
  exact ⟨sb, ok.laid hp, .lst upd_same (dv.mono sb)⟩
theorem own_lst {Z : Zn} {B : Hp} {σ : L2.St} {H : Hp} {ρ : En} {vs : List V} {ds : List PyData} {p : Addr} (ok : EnvOk Z B σ H ρ) (dv : DrAll B vs ds) (hp : H p = none) :
    EnvOk Z B σ (upd H p (.lst vs)) ρ ∧ RepR Z B (upd H p (.lst vs)) (NotOwn σ ρ) (.ref p) (.ow ds) :=
  ⟨ok.junk hp, .inr ⟨p, _, rfl, upd_same, ok.le.free hp, ok.lz.free hp, NotOwn.new ok hp, dv, rfl⟩⟩
theorem de_tup {k : FA} {x1} (ha : DA X es k) : DE X (.Tuple es x1 pos) (fTup k) := pe_imp (pe_tup ha) fun σ H Q ⟨Z, B, ρ, d, ρ', ok, e, q⟩ => by
  unfold fTup at e
  obtain ⟨⟨ds, ρ1⟩, e1, e2⟩ := Option.bind_eq_some_iff.mp e
  split at e2
  · rename_i hl
    cases e2
    refine ⟨Z, B, ρ, ds, _, ok, e1, fun B1 H1 vs s1 ok1 dv => ⟨by rw [dv.length]; exact hl, fun p hp => ?_⟩⟩
    obtain ⟨s2, ok2, d2⟩ := lay_tup ok1 dv hp
    exact q _ _ _ (s1.trans s2) ok2 d2
  · cases e2
theorem dr_lst {k : FA} (ha : DA X es k) : DR X (.List es pos) (fLst k) := pe_imp (pe_lst ha) fun σ H Q ⟨Z, B, ρ, s, ρ', ok, e, q⟩ => by
  unfold fLst at e
  obtain ⟨⟨ds, ρ1⟩, e1, e2⟩ := Option.bind_eq_some_iff.mp e
  split at e2
  · rename_i hl
    cases e2
    refine ⟨Z, B, ρ, ds, _, ok, e1, fun B1 H1 vs s1 ok1 dv => ⟨by rw [dv.length]; exact hl, fun p hp => ?_⟩⟩
    obtain ⟨ok2, d2⟩ := own_lst ok1 dv hp
    exact q _ _ _ s1 ok2 d2
  · cases e2
end

/-! GOps: operators, subscripts, built-in functions by data. -/

def intsO : List PyData → Option (List Int)
  | [] => some []
  | .int i :: ds => (intsO ds).map (i :: ·)
  | _ => none
def boolsO : List PyData → Option (List Bool)
  | [] => some []
  | .bool i :: ds => (boolsO ds).map (i :: ·)
  | _ => none
theorem intsO_eq : ∀ {ds : List PyData} {ns : List Int}, intsO ds = some ns → ds = ns.map PyData.int
  | [], ns, h => by cases h; rfl
  | d :: ds, ns, h => by
    cases d with
    | int i =>
      obtain ⟨ms, h1, h2⟩ := Option.map_eq_some_iff.mp (show (intsO ds).map (i :: ·) = some ns from h)
      subst h2
      rw [intsO_eq h1]
      rfl
    | _ => cases h
theorem boolsO_eq : ∀ {ds : List PyData} {ns : List Bool}, boolsO ds = some ns → ds = ns.map PyData.bool
  | [], ns, h => by cases h; rfl
  | d :: ds, ns, h => by
    cases d with
    | bool i =>
      obtain ⟨ms, h1, h2⟩ := Option.map_eq_some_iff.mp (show (boolsO ds).map (i :: ·) = some ns from h)
      subst h2
      rw [boolsO_eq h1]
      rfl
    | _ => cases h
theorem intsO_map (ns : List Int) : intsO (ns.map PyData.int) = some ns := by
  induction ns with
  | nil => rfl
  | cons n ns ih =>
    show (intsO (ns.map PyData.int)).map (n :: ·) = some (n :: ns)
    rw [ih]
    rfl
theorem boolsO_map (ns : List Bool) : boolsO (ns.map PyData.bool) = some ns := by
  induction ns with
  | nil => rfl
  | cons n ns ih =>
    show (boolsO (ns.map PyData.bool)).map (n :: ·) = some (n :: ns)
    rw [ih]
    rfl

/-! ### arithmetic -/
def hAdd : PyData → PyData → Option PyData
  | .int i, .int j => some (.int (i + j))
  | .list xs, .list ys => if xs.length + ys.length ≤ 16777216 then some (.list (xs ++ ys)) else none
  | .tuple xs, .tuple ys => if xs.length + ys.length ≤ 16777216 then some (.tuple (xs ++ ys)) else none
  | _, _ => none
def hSub : PyData → PyData → Option PyData
  | .int i, .int j => some (.int (i - j))
  | _, _ => none
def hMul : PyData → PyData → Option PyData
  | .int i, .int j => if (-18446744073709551616 < i ∧ i < 18446744073709551616) ∨ (-18446744073709551616 < j ∧ j < 18446744073709551616) then some (.int (i * j)) else none
  | .list xs, .int k => if -9223372036854775808 ≤ k ∧ k < 9223372036854775808 ∧ xs.length * k.toNat ≤ 16777216 then some (.list (List.replicate k.toNat xs).flatten) else none
  | .tuple xs, .int k => if xs ≠ [] ∧ 2 ≤ k ∧ k ≤ 1000 ∧ xs.length ≤ 1000 then some (.tuple (List.replicate k.toNat xs).flatten) else none
  | _, _ => none
def hMod : PyData → PyData → Option PyData
  | .int i, .int j => if 0 < j then some (.int (i % j)) else none
  | _, _ => none
def hDiv : PyData → PyData → Option PyData
  | .int i, .int j => if 0 < j ∧ j < 18446744073709551616 then some (.int (i / j)) else none
  | _, _ => none
def hPow : PyData → PyData → Option PyData
  | .int i, .int j => if 0 ≤ j ∧ j ≤ 1000000 ∧ -18446744073709551616 < i ∧ i < 18446744073709551616 then some (.int (i ^ j.toNat)) else none
  | _, _ => none
def hShl : PyData → PyData → Option PyData
  | .int i, .int j => if 0 ≤ j ∧ j ≤ 1000000 ∧ -18446744073709551616 < i ∧ i < 18446744073709551616 then some (.int (i * 2 ^ j.toNat)) else none
  | _, _ => none
def hShr : PyData → PyData → Option PyData
  | .int i, .int j => if 0 ≤ j then some (.int (i / 2 ^ j.toNat)) else none
  | _, _ => none
def hAnd : PyData → PyData → Option PyData
  | .int i, .int j => some (.int (Builtin.bitAnd i j))
  | _, _ => none
theorem drAll_rep {B : Hp} {vs : List V} {ds : List PyData} (h : DrAll B vs ds) : ∀ n : Nat, DrAll B (List.replicate n vs).flatten (List.replicate n ds).flatten
  | 0 => .nil
  | n + 1 => by
    rw [List.replicate_succ, List.replicate_succ, List.flatten_cons, List.flatten_cons]
    exact h.app (drAll_rep h n)
theorem drAll_nil {B : Hp} {vs : List V} {ds : List PyData} (h : DrAll B vs ds) : vs = [] ↔ ds = [] := by
  cases h with
  | nil => exact ⟨fun _ => rfl, fun _ => rfl⟩
  | cons _ _ => exact ⟨fun z => (nomatch z), fun z => (nomatch z)⟩
theorem p64 : (2 : Int) ^ 64 = 18446744073709551616 := by decide
theorem p63 : (2 : Int) ^ 63 = 9223372036854775808 := by decide
theorem opd_int {C : Int → Int → Prop} {g : Int → Int → Int} {h : PyData → PyData → Option PyData} (hh : ∀ d e z, h d e = some z → ∃ i j, d = .int i ∧ e = .int j ∧ C i j ∧ z = .int (g i j)) : OpD (rI C fun i j => .int (g i j)) h := fun Z B σ H ρ x y d e z ok dx dy hz Q q => by
  obtain ⟨i, j, rfl, rfl, hc, rfl⟩ := hh d e z hz
  cases dx
  cases dy
  exact ⟨i, j, rfl, rfl, hc, q B H _ (Same.refl B) ok (.int _)⟩
theorem opd_int0 {g : Int → Int → Int} {h : PyData → PyData → Option PyData} (hh : ∀ d e z, h d e = some z → ∃ i j, d = .int i ∧ e = .int j ∧ z = .int (g i j)) : OpD (rI0 fun i j => .int (g i j)) h := fun Z B σ H ρ x y d e z ok dx dy hz Q q => by
  obtain ⟨i, j, rfl, rfl, rfl⟩ := hh d e z hz
  cases dx
  cases dy
  exact ⟨i, j, rfl, rfl, q B H _ (Same.refl B) ok (.int _)⟩
theorem nt_lt {i : Int} (h : -18446744073709551616 < i ∧ i < 18446744073709551616) : i.natAbs < 2 ^ 64 := by
  have e : (2 : Nat) ^ 64 = 18446744073709551616 := by decide
  rw [e]
  omega
section
variable {X : Cx} {a b c e : Expr} {es : List Expr} {f g h : FE} {pos : Pos} {k : Nat}
theorem opd_add {K : PySem.W.Frag} : OpD (fun x y H Q => (rI0 fun i j => .int (i + j)) x y H Q ∨ rCat x y H Q ∨ rCatA K x y H Q) hAdd := fun Z B σ H ρ x y d e z ok dx dy hz Q q => by
  unfold hAdd at hz
  split at hz
  · cases hz
    cases dx
    cases dy
    exact .inl ⟨_, _, rfl, rfl, q B H _ (Same.refl B) ok (.int _)⟩
  · split at hz
    · rename_i hl
      cases hz
      cases dx with
      | lst h1 h2 =>
        cases dy with
        | lst h3 h4 =>
          refine .inr (.inl ⟨_, _, _, _, rfl, rfl, ok.le _ _ h1, ok.le _ _ h3, by rw [h2.length, h4.length]; exact hl, fun p hp => ?_⟩)
          obtain ⟨s2, ok2, d2⟩ := lay_lst ok (h2.app h4) hp
          exact q _ _ _ s2 ok2 d2
    · cases hz
  · split at hz
    · rename_i hl
      cases hz
      cases dx with
      | tup h1 h2 =>
        cases dy with
        | tup h3 h4 =>
          refine .inr (.inr ⟨_, _, _, _, rfl, rfl, SqT.of (ok.le _ _ h1), SqT.of (ok.le _ _ h3), by rw [h2.length, h4.length]; exact hl, fun e => ?_, fun e1 e2 => ?_, fun e1 e2 p hp => ?_⟩)
          · rw [(drAll_nil h2).mp e, List.nil_append] at q
            exact q B H _ (Same.refl B) ok (.tup h3 h4)
          · rw [(drAll_nil h4).mp e2, List.append_nil] at q
            exact q B H _ (Same.refl B) ok (.tup h1 h2)
          · obtain ⟨s2, ok2, d2⟩ := lay_tup ok (h2.app h4) hp
            exact q _ _ _ s2 ok2 d2
    · cases hz
  · cases hz
theorem de_add (ha : DE X a f) (hb : DE X b g) : DE X (.BinOp a .Add b pos) (fBin hAdd f g) := de_op (OpR.or op_add (OpR.or op_cat op_catA)) opd_add ha hb
theorem de_sub (ha : DE X a f) (hb : DE X b g) : DE X (.BinOp a .Sub b pos) (fBin hSub f g) := de_op op_sub (opd_int0 fun d e z hz => by
  unfold hSub at hz
  split at hz
  · cases hz
    exact ⟨_, _, rfl, rfl, rfl⟩
  · cases hz) ha hb
theorem opd_mul {K : PySem.W.Frag} : OpD (fun x y H Q => (rI CMul fun i j => .int (i * j)) x y H Q ∨ rRep x y H Q ∨ rRepT K x y H Q) hMul := fun Z B σ H ρ x y d e z ok dx dy hz Q q => by
  unfold hMul at hz
  split at hz
  · split at hz
    · rename_i hl
      cases hz
      cases dx
      cases dy
      refine .inl ⟨_, _, rfl, rfl, ?_, q B H _ (Same.refl B) ok (.int _)⟩
      unfold CMul
      rw [p64]
      exact hl
    · cases hz
  · split at hz
    · rename_i hl
      cases hz
      cases dx with
      | lst h1 h2 =>
        cases dy
        refine .inr (.inl ⟨_, _, _, rfl, rfl, ok.le _ _ h1, by rw [p63]; exact hl.1, by rw [p63]; exact hl.2.1, by rw [h2.length]; exact hl.2.2, fun p hp => ?_⟩)
        obtain ⟨s2, ok2, d2⟩ := lay_lst ok (drAll_rep h2 _) hp
        exact q _ _ _ s2 ok2 d2
    · cases hz
  · split at hz
    · rename_i hl
      cases hz
      cases dx with
      | tup h1 h2 =>
        cases dy
        refine .inr (.inr ⟨_, _, _, rfl, rfl, SqT.of (ok.le _ _ h1), fun z => hl.1 ((drAll_nil h2).mp z), hl.2.1, hl.2.2.1, by rw [h2.length]; exact hl.2.2.2, fun p hp => ?_⟩)
        obtain ⟨s2, ok2, d2⟩ := lay_tup ok (drAll_rep h2 _) hp
        exact q _ _ _ s2 ok2 d2
    · cases hz
  · cases hz
theorem de_mul (ha : DE X a f) (hb : DE X b g) : DE X (.BinOp a .Mult b pos) (fBin hMul f g) := de_op (OpR.or op_mul (OpR.or op_rep op_repT)) opd_mul ha hb
theorem de_mod (ha : DE X a f) (hb : DE X b g) : DE X (.BinOp a .Mod b pos) (fBin hMod f g) := de_op op_mod (opd_int fun d e z hz => by
  unfold hMod at hz
  split at hz
  · split at hz
    · rename_i hl
      cases hz
      exact ⟨_, _, rfl, rfl, hl, rfl⟩
    · cases hz
  · cases hz) ha hb
theorem de_div (ha : DE X a f) (hb : DE X b g) : DE X (.BinOp a .FloorDiv b pos) (fBin hDiv f g) := de_op op_fdivW (opd_int fun d e z hz => by
  unfold hDiv at hz
  split at hz
  · split at hz
    · rename_i hl
      cases hz
      exact ⟨_, _, rfl, rfl, wide_div hl.1 (nt_lt ⟨by omega, hl.2⟩) (by decide) (by decide), rfl⟩
    · cases hz
  · cases hz) ha hb
theorem de_pow (ha : DE X a f) (hb : DE X b g) : DE X (.BinOp a .Pow b pos) (fBin hPow f g) := de_op op_pow (opd_int fun d e z hz => by
  unfold hPow at hz
  split at hz
  · split at hz
    · rename_i hl
      cases hz
      exact ⟨_, _, rfl, rfl, ⟨hl.1, hl.2.1, nt_lt hl.2.2⟩, rfl⟩
    · cases hz
  · cases hz) ha hb
theorem de_shl (ha : DE X a f) (hb : DE X b g) : DE X (.BinOp a .LShift b pos) (fBin hShl f g) := de_op op_shl (opd_int fun d e z hz => by
  unfold hShl at hz
  split at hz
  · split at hz
    · rename_i hl
      cases hz
      exact ⟨_, _, rfl, rfl, ⟨hl.1, hl.2.1, nt_lt hl.2.2⟩, rfl⟩
    · cases hz
  · cases hz) ha hb
theorem de_shr (ha : DE X a f) (hb : DE X b g) : DE X (.BinOp a .RShift b pos) (fBin hShr f g) := de_op op_shr (opd_int fun d e z hz => by
  unfold hShr at hz
  split at hz
  · split at hz
    · rename_i hl
      cases hz
      exact ⟨_, _, rfl, rfl, hl, rfl⟩
    · cases hz
  · cases hz) ha hb
theorem de_band (ha : DE X a f) (hb : DE X b g) : DE X (.BinOp a .BitAnd b pos) (fBin hAnd f g) := de_op op_and (opd_int0 fun d e z hz => by
  unfold hAnd at hz
  split at hz
  · cases hz
    exact ⟨_, _, rfl, rfl, rfl⟩
  · cases hz) ha hb

/-! ### comparisons -/
def hLt : PyData → PyData → Option PyData
  | .int i, .int j => some (.bool (decide (i < j)))
  | .tuple xs, .tuple ys => (intsO xs).bind fun ns => (intsO ys).map fun ms => .bool (HT.lexLt ns ms)
  | _, _ => none
def hLe : PyData → PyData → Option PyData
  | .int i, .int j => some (.bool (decide (i ≤ j)))
  | _, _ => none
def hGt : PyData → PyData → Option PyData
  | .int i, .int j => some (.bool (decide (j < i)))
  | _, _ => none
def hGe : PyData → PyData → Option PyData
  | .int i, .int j => some (.bool (decide (j ≤ i)))
  | _, _ => none
def hEq (d e : PyData) : Option PyData := if SeqAt.shaped d = true ∧ SeqAt.shaped e = true then some (.bool (PyData.eqv d e)) else none
def hNe (d e : PyData) : Option PyData := if SeqAt.shaped d = true ∧ SeqAt.shaped e = true then some (.bool (!PyData.eqv d e)) else none
/-- x in xs -/
def hIn (d : PyData) : PyData → Option PyData
  | .list ds => if SeqAt.shaped d = true ∧ SeqAt.shaped (.list ds) = true then some (.bool (ds.any fun z => PyData.eqv z d)) else none
  | _ => none
def hNotIn (d : PyData) : PyData → Option PyData
  | .list ds => if SeqAt.shaped d = true ∧ SeqAt.shaped (.list ds) = true then some (.bool (!ds.any fun z => PyData.eqv z d)) else none
  | _ => none
theorem opd_bool0 {g : Int → Int → Bool} {h : PyData → PyData → Option PyData} (hh : ∀ d e z, h d e = some z → ∃ i j, d = .int i ∧ e = .int j ∧ z = .bool (g i j)) : OpD (rI0 fun i j => .bl (g i j)) h := fun Z B σ H ρ x y d e z ok dx dy hz Q q => by
  obtain ⟨i, j, rfl, rfl, rfl⟩ := hh d e z hz
  cases dx
  cases dy
  exact ⟨i, j, rfl, rfl, q B H _ (Same.refl B) ok (.bl _)⟩
theorem opd_lt {K : PySem.W.Frag} : OpD (fun x y H Q => (rI0 fun i j => .bl (decide (i < j))) x y H Q ∨ rLtT K x y H Q) hLt := fun Z B σ H ρ x y d e z ok dx dy hz Q q => by
  unfold hLt at hz
  split at hz
  · cases hz
    cases dx
    cases dy
    exact .inl ⟨_, _, rfl, rfl, q B H _ (Same.refl B) ok (.bl _)⟩
  · obtain ⟨ns, h1, h2⟩ := Option.bind_eq_some_iff.mp hz
    obtain ⟨ms, h3, h4⟩ := Option.map_eq_some_iff.mp h2
    cases h4
    have e1 := intsO_eq h1
    have e2 := intsO_eq h3
    subst e1 e2
    cases dx with
    | tup g1 g2 =>
      cases dy with
      | tup g3 g4 =>
        have e3 := g2.ints_inv
        have e4 := g4.ints_inv
        subst e3 e4
        exact .inr ⟨_, _, ns, ms, rfl, rfl, SqT.of (ok.le _ _ g1), SqT.of (ok.le _ _ g3), q B H _ (Same.refl B) ok (.bl _)⟩
  · cases hz
theorem opd_le : OpD (rI0 fun i j => .bl (decide (i ≤ j))) hLe := opd_bool0 fun d e z hz => by
  unfold hLe at hz
  split at hz
  · cases hz
    exact ⟨_, _, rfl, rfl, rfl⟩
  · cases hz
theorem opd_gt : OpD (rI0 fun i j => .bl (decide (j < i))) hGt := opd_bool0 fun d e z hz => by
  unfold hGt at hz
  split at hz
  · cases hz
    exact ⟨_, _, rfl, rfl, rfl⟩
  · cases hz
theorem opd_ge : OpD (rI0 fun i j => .bl (decide (j ≤ i))) hGe := opd_bool0 fun d e z hz => by
  unfold hGe at hz
  split at hz
  · cases hz
    exact ⟨_, _, rfl, rfl, rfl⟩
  · cases hz
theorem opd_eq {K : PySem.W.Frag} : OpD (rEqD K) hEq := fun Z B σ H ρ x y d e z ok dx dy hz Q q => by
  unfold hEq at hz
  split at hz
  · rename_i h1
    cases hz
    exact ⟨d, e, dr_dp _ _ (dx.mono ok.le), dr_dp _ _ (dy.mono ok.le), h1.1, h1.2, q B H _ (Same.refl B) ok (.bl _)⟩
  · cases hz
theorem opd_ne {K : PySem.W.Frag} : OpD (rNeD K) hNe := fun Z B σ H ρ x y d e z ok dx dy hz Q q => by
  unfold hNe at hz
  split at hz
  · rename_i h1
    cases hz
    exact ⟨d, e, dr_dp _ _ (dx.mono ok.le), dr_dp _ _ (dy.mono ok.le), h1.1, h1.2, q B H _ (Same.refl B) ok (.bl _)⟩
  · cases hz
theorem opd_in {K : PySem.W.Frag} : OpD (rInD K) hIn := fun Z B σ H ρ x y d e z ok dx dy hz Q q => by
  unfold hIn at hz
  split at hz
  · split at hz
    · rename_i h1
      cases hz
      exact ⟨d, _, dr_dp _ _ (dx.mono ok.le), dr_dp _ _ (dy.mono ok.le), h1.1, h1.2, q B H _ (Same.refl B) ok (.bl _)⟩
    · cases hz
  · cases hz
theorem opd_notIn {K : PySem.W.Frag} : OpD (rNotInD K) hNotIn := fun Z B σ H ρ x y d e z ok dx dy hz Q q => by
  unfold hNotIn at hz
  split at hz
  · split at hz
    · rename_i h1
      cases hz
      exact ⟨d, _, dr_dp _ _ (dx.mono ok.le), dr_dp _ _ (dy.mono ok.le), h1.1, h1.2, q B H _ (Same.refl B) ok (.bl _)⟩
    · cases hz
  · cases hz
theorem u0 (hr : Room k X.A) : X.A.units < cLine := by have := hr.un; omega
theorem u64 (hr : Room k X.A) : X.A.units + 64 < cLine := by have := hr.un; omega
theorem u65 (hr : Room k X.A) : X.A.units + 65 < cLine := by have := hr.un; omega
theorem de_lt (hr : Room k X.A) (ha : DE X a f) (hb : DE X b g) : DE X (.Compare a [.Lt] [b] pos) (fBin hLt f g) := de_cmpR (OpR.or op_lt (op_ltT (u0 hr))) opd_lt ha hb (nomark _)
theorem de_le (hr : Room k X.A) (ha : DE X a f) (hb : DE X b g) : DE X (.Compare a [.LtE] [b] pos) (fBin hLe f g) := de_cmpR op_le opd_le ha hb (nomark _)
theorem de_gt (hr : Room k X.A) (ha : DE X a f) (hb : DE X b g) : DE X (.Compare a [.Gt] [b] pos) (fBin hGt f g) := de_cmpR op_gt opd_gt ha hb (nomark _)
theorem de_ge (hr : Room k X.A) (ha : DE X a f) (hb : DE X b g) : DE X (.Compare a [.GtE] [b] pos) (fBin hGe f g) := de_cmpR op_ge opd_ge ha hb (nomark _)
theorem de_eq (hr : Room k X.A) (ha : DE X a f) (hb : DE X b g) : DE X (.Compare a [.Eq] [b] pos) (fBin hEq f g) := de_cmpR (op_eqD (u64 hr)) opd_eq ha hb (nomark _)
theorem de_ne (hr : Room k X.A) (ha : DE X a f) (hb : DE X b g) : DE X (.Compare a [.NotEq] [b] pos) (fBin hNe f g) := de_cmpR (op_neD (u64 hr)) opd_ne ha hb (nomark _)
theorem de_in (hr : Room k X.A) (ha : DE X a f) (hb : DE X b g) (hm : behindInMarks .In b = false := by with_unfolding_all rfl) : DE X (.Compare a [.In] [b] pos) (fBin hIn f g) := de_cmpR (op_inD (u65 hr)) opd_in ha hb hm
theorem de_notIn (hr : Room k X.A) (ha : DE X a f) (hb : DE X b g) (hm : behindInMarks .NotIn b = false := by with_unfolding_all rfl) : DE X (.Compare a [.NotIn] [b] pos) (fBin hNotIn f g) := de_cmpR (op_notInD (u65 hr)) opd_notIn ha hb hm
theorem dt_lt (hr : Room k X.A) (ha : DE X a f) (hb : DE X b g) : DT X (.Compare a [.Lt] [b] pos) (fB (fBin hLt f g)) := dt_cmpR (OpR.or op_lt (op_ltT (u0 hr))) opd_lt ha hb (nomark _)
theorem dt_le (hr : Room k X.A) (ha : DE X a f) (hb : DE X b g) : DT X (.Compare a [.LtE] [b] pos) (fB (fBin hLe f g)) := dt_cmpR op_le opd_le ha hb (nomark _)
theorem dt_gt (hr : Room k X.A) (ha : DE X a f) (hb : DE X b g) : DT X (.Compare a [.Gt] [b] pos) (fB (fBin hGt f g)) := dt_cmpR op_gt opd_gt ha hb (nomark _)
theorem dt_ge (hr : Room k X.A) (ha : DE X a f) (hb : DE X b g) : DT X (.Compare a [.GtE] [b] pos) (fB (fBin hGe f g)) := dt_cmpR op_ge opd_ge ha hb (nomark _)
theorem dt_eq (hr : Room k X.A) (ha : DE X a f) (hb : DE X b g) : DT X (.Compare a [.Eq] [b] pos) (fB (fBin hEq f g)) := dt_cmpR (op_eqD (u64 hr)) opd_eq ha hb (nomark _)
theorem dt_ne (hr : Room k X.A) (ha : DE X a f) (hb : DE X b g) : DT X (.Compare a [.NotEq] [b] pos) (fB (fBin hNe f g)) := dt_cmpR (op_neD (u64 hr)) opd_ne ha hb (nomark _)
theorem dt_in (hr : Room k X.A) (ha : DE X a f) (hb : DE X b g) (hm : behindInMarks .In b = false := by with_unfolding_all rfl) : DT X (.Compare a [.In] [b] pos) (fB (fBin hIn f g)) := dt_cmpR (op_inD (u65 hr)) opd_in ha hb hm
theorem dt_notIn (hr : Room k X.A) (ha : DE X a f) (hb : DE X b g) (hm : behindInMarks .NotIn b = false := by with_unfolding_all rfl) : DT X (.Compare a [.NotIn] [b] pos) (fB (fBin hNotIn f g)) := dt_cmpR (op_notInD (u65 hr)) opd_notIn ha hb hm
theorem de_leLe (hr : Room k X.A) (ha : DE X a f) (hb : DE X b g) (hc : DE X c h) (hm : lastMarks [.LtE, .LtE] [b, c] = false := by with_unfolding_all rfl) : DE X (.Compare a [.LtE, .LtE] [b, c] pos) (fChain hLe hLe f g h) := de_chain op_le opd_le op_le opd_le ha hb hc hm
theorem dt_leLe (hr : Room k X.A) (ha : DE X a f) (hb : DE X b g) (hc : DE X c h) (hm : lastMarks [.LtE, .LtE] [b, c] = false := by with_unfolding_all rfl) : DT X (.Compare a [.LtE, .LtE] [b, c] pos) (fB (fChain hLe hLe f g h)) := dt_chain op_le opd_le op_le opd_le ha hb hc hm
theorem dt_leLt (hr : Room k X.A) (ha : DE X a f) (hb : DE X b g) (hc : DE X c h) (hm : lastMarks [.LtE, .Lt] [b, c] = false := by with_unfolding_all rfl) : DT X (.Compare a [.LtE, .Lt] [b, c] pos) (fB (fChain hLe hLt f g h)) := dt_chain op_le opd_le (OpR.or op_lt (op_ltT (u0 hr))) opd_lt ha hb hc hm
/-- is None -/
def isN : PyData → Bool
  | .none => true
  | _ => false
def hIsN (d : PyData) : Option PyData := some (.bool (isN d))
def hNotN (d : PyData) : Option PyData := some (.bool (!isN d))
theorem isN_dr {B : Hp} {v : V} {d : PyData} (h : Dr B v d) : decide (v = .non) = isN d := by
  cases h <;> first | rfl | exact decide_eq_false (fun z => by cases z)
theorem tIsN_of : ∀ σ H Q, tE (fUn hIsN f) σ H Q → tIsN (tE f) σ H Q := fun σ H Q ⟨Z, B, ρ, d, ρ', ok, e, q⟩ => by
  unfold fUn at e
  obtain ⟨⟨d1, ρ1⟩, e1, e2⟩ := Option.bind_eq_some_iff.mp e
  obtain ⟨z, e3, e4⟩ := Option.map_eq_some_iff.mp e2
  cases e4
  cases e3
  refine ⟨Z, B, ρ, d1, _, ok, e1, fun B1 H1 x s1 ok1 dx => ?_⟩
  show Q (V.bl (decide (x = V.non))) H1
  rw [isN_dr dx]
  exact q B1 H1 _ s1 ok1 (.bl _)
theorem tNotN_of : ∀ σ H Q, tE (fUn hNotN f) σ H Q → tNotN (tE f) σ H Q := fun σ H Q ⟨Z, B, ρ, d, ρ', ok, e, q⟩ => by
  unfold fUn at e
  obtain ⟨⟨d1, ρ1⟩, e1, e2⟩ := Option.bind_eq_some_iff.mp e
  obtain ⟨z, e3, e4⟩ := Option.map_eq_some_iff.mp e2
  cases e4
  cases e3
  refine ⟨Z, B, ρ, d1, _, ok, e1, fun B1 H1 x s1 ok1 dx => ?_⟩
  show Q (V.bl (!decide (x = V.non))) H1
  rw [isN_dr dx]
  exact q B1 H1 _ s1 ok1 (.bl _)
theorem de_isN {j pos'} (ha : DE X a f) : DE X (.Compare a [.Is] [.Constant .none j pos'] pos) (fUn hIsN f) := pe_imp (pe_cmp (pc_isN ha)) tIsN_of
theorem de_notN {j pos'} (ha : DE X a f) : DE X (.Compare a [.IsNot] [.Constant .none j pos'] pos) (fUn hNotN f) := pe_imp (pe_cmp (pc_notN ha)) tNotN_of
theorem dt_isN {j pos'} (ha : DE X a f) : DT X (.Compare a [.Is] [.Constant .none j pos'] pos) (fB (fUn hIsN f)) := pt_imp (pt_cmp (pc_isN ha)) (tB_of tIsN_of)
theorem dt_notN {j pos'} (ha : DE X a f) : DT X (.Compare a [.IsNot] [.Constant .none j pos'] pos) (fB (fUn hNotN f)) := pt_imp (pt_cmp (pc_notN ha)) (tB_of tNotN_of)

/-! ### subscripts -/
def hIx : PyData → PyData → Option PyData
  | .list xs, .int i => atI xs i
  | .tuple xs, .int i => atI xs i
  | _, _ => none
theorem atI_dr {B : Hp} {vs : List V} {ds : List PyData} {i : Int} {d : PyData} (h : DrAll B vs ds) (e : atI ds i = some d) : ∃ v, atI vs i = some v ∧ Dr B v d := by
  unfold atI at e ⊢
  obtain ⟨j, e1, e2⟩ := Option.bind_eq_some_iff.mp e
  obtain ⟨v, e3, e4⟩ := h.get e2
  rw [h.length, e1]
  exact ⟨v, e3, e4⟩
theorem opd_ix {K : PySem.W.Frag} : OpD (fun x y H Q => rIxL K x y H Q ∨ rIxT K x y H Q) hIx := fun Z B σ H ρ x y d e z ok dx dy hz Q q => by
  unfold hIx at hz
  split at hz
  · cases dx with
    | lst h1 h2 =>
      cases dy
      obtain ⟨v, h3, h4⟩ := atI_dr h2 hz
      exact .inl ⟨_, _, _, v, rfl, rfl, SqL.of (ok.le _ _ h1), h3, q B H v (Same.refl B) ok h4⟩
  · cases dx with
    | tup h1 h2 =>
      cases dy
      obtain ⟨v, h3, h4⟩ := atI_dr h2 hz
      exact .inr ⟨_, _, _, v, rfl, rfl, SqT.of (ok.le _ _ h1), h3, q B H v (Same.refl B) ok h4⟩
  · cases hz
theorem de_ix (ha : DE X a f) (hb : DE X b g) (hs : PlainIx b := by exact fun _ _ => rfl) : DE X (.Subscript a b pos) (fBin hIx f g) := pe_imp (pe_ix (IxR.or ix_list ix_tup) ha hb hs) (tOp_of opd_ix)
/-- the list of an own slot -/
def ownL : Option Sl → Option (List PyData)
  | some (.ow xs) => some xs
  | some (.io xs) => some xs
  | _ => none
theorem own_at {Z : Zn} {B : Hp} {σ : L2.St} {H : Hp} {ρ : En} {i : Nat} {xs : List PyData} (ok : EnvOk Z B σ H ρ) (h : ownL ρ[i]? = some xs) :
    ∃ s a vs, ρ[i]? = some s ∧ isOwn s = true ∧ σ[i]? = some (some (.ref a)) ∧ H a = some (.lst vs) ∧ B a = none ∧ Z.fr a = none ∧ DrAll B vs xs ∧ (s = .ow xs ∨ (s = .io xs ∧ a = Z.bag)) := by
  cases e : ρ[i]? with
  | none =>
    rw [e] at h
    cases h
  | some s =>
    rw [e] at h
    cases s with
    | ow ys =>
      cases h
      obtain ⟨a, o, q1, q2, q3, q4, q5⟩ := ok.ow i _ e rfl
      cases o with
      | lst vs => exact ⟨_, a, vs, rfl, rfl, q1, q2, q3, q4, q5, .inl rfl⟩
      | _ => exact q5.elim
    | io ys =>
      cases h
      obtain ⟨a, o, q1, q2, q3, q4, q5⟩ := ok.ow i _ e rfl
      have h6 := ok.io i _ e
      rw [q1] at h6
      have h7 : a = Z.bag := V.ref.inj (Option.some.inj (Option.some.inj h6))
      cases o with
      | lst vs => exact ⟨_, a, vs, rfl, rfl, q1, q2, q3, q4, q5, .inr ⟨rfl, h7⟩⟩
      | _ => exact q5.elim
    | _ => cases h
theorem own_same {σ : L2.St} {i : Nat} {a b : Addr} (h1 : σ[i]? = some (some (V.ref a))) (h2 : σ[i]? = some (some (V.ref b))) : a = b := by
  rw [h1] at h2
  exact V.ref.inj (Option.some.inj (Option.some.inj h2))
/-- the same slot with another list -/
def newL : Option Sl → List PyData → Sl
  | some (.io _), xs => .io xs
  | _, xs => .ow xs
theorem own_mut {Z : Zn} {B : Hp} {σ : L2.St} {H : Hp} {ρ : En} {i : Nat} {xs ys : List PyData} {s : Sl} {a : Addr} {ws : List V} (ok : EnvOk Z B σ H ρ) (h1 : ρ[i]? = some s) (h2 : isOwn s = true) (h3 : σ[i]? = some (some (.ref a)))
    (h4 : s = .ow xs ∨ (s = .io xs ∧ a = Z.bag)) (hr : DrAll B ws ys) : EnvOk Z B σ (upd H a (.lst ws)) (ρ.set i (newL ρ[i]? ys)) := by
  rw [h1]
  rcases h4 with rfl | ⟨rfl, e⟩
  · exact ok.mut h1 h2 h3 (s' := .ow ys) hr
  · exact ok.mut h1 h2 h3 (s' := .io ys) hr (fun _ => e)
/-- an own list's item -/
def fIxO (i : Nat) (g : FE) : FE := fun ρ => (g ρ).bind fun p => (ownL ρ[i]?).bind fun _ => (ownL p.2[i]?).bind fun xs => match p.1 with
  | .int k => (atI xs k).map fun d => (d, p.2)
  | _ => none
theorem de_ixO (i : Nat) {x : Str} {px : Pos} (hb : DE X b g) (hN : X.N[i]? = some x := by rfl) (hv : Vis X.env.scope x := by first | exact Or.inl rfl | exact Or.inr (Or.inl rfl) | exact Or.inr (Or.inr rfl)) (hd : (x == ("__debug__" : Str)) = false := by decide)
    (hcd : (x == ("__classdict__" : Str)) = false := by decide) (hs : PlainIx b := by exact fun _ _ => rfl) : DE X (.Subscript (.Name x px) b pos) (fIxO i g) := pe_imp (pe_ix ix_list (pe_var hN hv hd hcd) hb hs) fun σ H Q ⟨Z, B, ρ, d, ρ', ok, e, q⟩ => by
  unfold fIxO at e
  obtain ⟨⟨d1, ρ1⟩, e1, e2⟩ := Option.bind_eq_some_iff.mp e
  obtain ⟨xs0, h0, e3⟩ := Option.bind_eq_some_iff.mp e2
  obtain ⟨xs, h1, e4⟩ := Option.bind_eq_some_iff.mp e3
  obtain ⟨_, a0, _, _, _, g1, g2, _⟩ := own_at ok h0
  refine ⟨.ref a0, g1, Z, B, ρ, d1, _, ok, e1, fun B1 H1 y s1 ok1 dy => ?_⟩
  obtain ⟨_, a, vs, _, _, k1, k2, k3, k4, k5, _⟩ := own_at ok1 h1
  have e5 := own_same g1 k1
  subst e5
  cases d1 with
  | int k =>
    obtain ⟨z, e6, e7⟩ := Option.map_eq_some_iff.mp e4
    cases e7
    cases dy
    obtain ⟨v, h3, h4⟩ := atI_dr k5 e6
    exact ⟨a0, vs, k, v, rfl, rfl, SqL.of k2, h3, q B1 H1 v s1 ok1 h4⟩
  | _ => cases e4

/-! ### slices -/
def cutD (xs : List PyData) (lo hi : Option Int) : List PyData := (xs.drop (HT.sIx xs.length 0 lo)).take (HT.sIx xs.length xs.length hi - HT.sIx xs.length 0 lo)
abbrev FO := En → Option (Option Int × En)
def tO (f : FO) : TO := fun σ H Q => ∃ Z B ρ o ρ', EnvOk Z B σ H ρ ∧ f ρ = some (o, ρ') ∧ ∀ B' H', Same B B' → EnvOk Z B' σ H' ρ' → Q o H'
abbrev DO (X : Cx) (e : Option Expr) (f : FO) := PO X e (tO f)
def fNo : FO := fun ρ => some (none, ρ)
def fPt (f : FE) : FO := fun ρ => (f ρ).bind fun p => match p.1 with
  | .int i => some (some i, p.2)
  | _ => none
theorem po_imp {e : Option Expr} {t t' : TO} (h : PO X e t) (i : ∀ σ H Q, t' σ H Q → t σ H Q) : PO X e t' := ⟨fun pins s σ H Q I q => h.run pins s σ H Q I (i σ H Q q)⟩
theorem do_no : DO X none fNo := po_imp po_none fun σ H Q ⟨Z, B, ρ, o, ρ', ok, e, q⟩ => by
  cases e
  exact q B H (Same.refl B) ok
theorem do_pt (h : DE X e f) : DO X (some e) (fPt f) := po_imp (po_some h) fun σ H Q ⟨Z, B, ρ, o, ρ', ok, e, q⟩ => by
  unfold fPt at e
  obtain ⟨⟨d1, ρ1⟩, e1, e2⟩ := Option.bind_eq_some_iff.mp e
  refine ⟨Z, B, ρ, d1, ρ1, ok, e1, fun B1 H1 y s1 ok1 dy => ?_⟩
  cases d1 with
  | int k =>
    cases e2
    cases dy
    exact ⟨k, rfl, q B1 H1 s1 ok1⟩
  | _ => cases e2
def hCut (lo hi : Option Int) : PyData → Option Sl
  | .list xs => some (.ow (cutD xs lo hi))
  | .tuple xs => some (.sh (.tuple (cutD xs lo hi)))
  | _ => none
def fCut (f : FE) (l h : FO) : FR := fun ρ => (f ρ).bind fun p => (l p.2).bind fun q => (h q.2).bind fun r => (hCut q.1 r.1 p.1).map fun s => (s, r.2)
theorem cut_dr {B : Hp} {vs : List V} {ds : List PyData} (lo hi : Option Int) (h : DrAll B vs ds) : DrAll B (cutV vs lo hi) (cutD ds lo hi) := by
  unfold cutV cutD
  rw [h.length]
  exact (h.drop _).take _
theorem cut_whole {ds : List PyData} {lo hi : Option Int} (h : HT.sIx ds.length 0 lo = 0 ∧ HT.sIx ds.length ds.length hi = ds.length) : cutD ds lo hi = ds := by
  unfold cutD
  rw [h.1, h.2, List.drop_zero, Nat.sub_zero, List.take_length]
theorem dr_cut {lo hi : Option Expr} {l u : FO} {p2 : Pos} (he : DE X e f) (hl : DO X lo l) (hu : DO X hi u) : DR X (.Subscript e (.Slice lo hi none p2) pos) (fCut f l u) := pe_imp (pe_slice (SlR.or sl_list sl_tupA) he hl hu) fun σ H Q ⟨Z, B, ρ, s, ρ', ok, e, q⟩ => by
  unfold fCut at e
  obtain ⟨⟨d1, ρ1⟩, e1, e2⟩ := Option.bind_eq_some_iff.mp e
  obtain ⟨⟨o1, ρ2⟩, e3, e4⟩ := Option.bind_eq_some_iff.mp e2
  obtain ⟨⟨o2, ρ3⟩, e5, e6⟩ := Option.bind_eq_some_iff.mp e4
  obtain ⟨z, e7, e8⟩ := Option.map_eq_some_iff.mp e6
  cases e8
  refine ⟨Z, B, ρ, d1, ρ1, ok, e1, fun B1 H1 y s1 ok1 dy => ⟨Z, B1, ρ1, o1, ρ2, ok1, e3, fun B2 H2 s2 ok2 => ⟨Z, B2, ρ2, o2, _, ok2, e5, fun B3 H3 s3 ok3 => ?_⟩⟩⟩
  have dy3 := (dy.mono s2).mono s3
  cases d1 with
  | list xs =>
    cases e7
    cases dy3 with
    | lst h1 h2 =>
      refine .inl ⟨_, _, rfl, SqL.of (ok3.le _ _ h1), fun p hp => ?_⟩
      obtain ⟨ok4, r4⟩ := own_lst ok3 (cut_dr o1 o2 h2) hp
      exact q B3 _ _ (s1.trans (s2.trans s3)) ok4 r4
  | tuple xs =>
    cases e7
    cases dy3 with
    | tup h1 h2 =>
      refine .inr ⟨_, _, rfl, SqT.of (ok3.le _ _ h1), fun hw => ?_, fun hw p hp => ?_⟩
      · rw [h2.length] at hw
        rw [cut_whole hw] at q
        exact q B3 H3 _ (s1.trans (s2.trans s3)) ok3 (.inl ⟨_, rfl, .tup h1 h2⟩)
      · obtain ⟨s4, ok4, d4⟩ := lay_tup ok3 (cut_dr o1 o2 h2) hp
        exact q _ _ _ (s1.trans (s2.trans (s3.trans s4))) ok4 (.inl ⟨_, rfl, d4⟩)
  | _ => cases e7

/-! ### built-in functions -/
def CallD (r : List V → Hp → VK → Prop) (h : List PyData → Option Sl) : Prop := ∀ (Z : Zn) (B : Hp) (σ : L2.St) (H : Hp) (ρ : En) (vs : List V) (ds : List PyData) (s : Sl), EnvOk Z B σ H ρ → DrAll B vs ds → h ds = some s →
  ∀ Q : VK, (∀ B' H' v, Same B B' → EnvOk Z B' σ H' ρ → RepR Z B' H' (NotOwn σ ρ) v s → Q v H') → r vs H Q
def fCall (h : List PyData → Option Sl) (k : FA) : FR := fun ρ => (k ρ).bind fun p => (h p.1).map fun s => (s, p.2)
theorem tCB_of {r : List V → Hp → VK → Prop} {hh : List PyData → Option Sl} {k : FA} (hr : CallD r hh) : ∀ σ H Q, tR (fCall hh k) σ H Q → tCB r (tA k) σ H Q := fun σ H Q ⟨Z, B, ρ, s, ρ', ok, e, q⟩ => by
  unfold fCall at e
  obtain ⟨⟨ds, ρ1⟩, e1, e2⟩ := Option.bind_eq_some_iff.mp e
  obtain ⟨z, e3, e4⟩ := Option.map_eq_some_iff.mp e2
  cases e4
  exact ⟨Z, B, ρ, ds, _, ok, e1, fun B1 H1 vs s1 ok1 dv => hr Z B1 σ H1 _ vs ds _ ok1 dv e3 Q fun B2 H2 v s2 ok2 rv => q B2 H2 v (s1.trans s2) ok2 rv⟩
theorem dr_callB {id : String} {x : Str} {p : Pos} {r : List V → Hp → VK → Prop} {hh : List PyData → Option Sl} {k : FA} (hc : CallR X (.builtin id) r) (hr : CallD r hh) (hm : X.mg x = none) (hv : bootBuiltins x = some (.builtin id)) (ha : DA X (e :: es) k) (hg : Gl X x := by rfl) (hn : x ≠ "__name__" := by decide) (hdb : (x == ("__debug__" : Str)) = false := by decide)
    (he : starEach (e :: es) X.env = (false, eval e X.env) :: starEach es X.env := by rfl) (hpl : (backTo pos (starEach es X.env)).any (·.1) = false := by rfl) : DR X (.Call (.Name x p) (e :: es) [] pos) (fCall hh k) := pe_imp (pe_callB hc hg hm hv ha hn hdb he hpl) (tCB_of hr)
theorem dr_callTy {T : String} {x : Str} {p : Pos} {r : List V → Hp → VK → Prop} {hh : List PyData → Option Sl} {k : FA} (hc : CallR X (.type T) r) (hr : CallD r hh) (hm : X.mg x = none) (hv : bootBuiltins x = some (.type T)) (ha : DA X (e :: es) k) (hg : Gl X x := by rfl) (hn : x ≠ "__name__" := by decide) (hdb : (x == ("__debug__" : Str)) = false := by decide)
    (he : starEach (e :: es) X.env = (false, eval e X.env) :: starEach es X.env := by rfl) (hpl : (backTo pos (starEach es X.env)).any (·.1) = false := by rfl) : DR X (.Call (.Name x p) (e :: es) [] pos) (fCall hh k) := pe_imp (pe_callTy hc hg hm hv ha hn hdb he hpl) (tCB_of hr)
def hLen : List PyData → Option Sl
  | [.list xs] => some (.sh (.int xs.length))
  | [.tuple xs] => some (.sh (.int xs.length))
  | _ => none
def hAbs : List PyData → Option Sl
  | [.int i] => some (.sh (.int (if i < 0 then -i else i)))
  | _ => none
def hAll : List PyData → Option Sl
  | [.list xs] => (boolsO xs).map fun bs => .sh (.bool (bs.all id))
  | _ => none
def hSum : List PyData → Option Sl
  | [.list xs] => (intsO xs).map fun bs => .sh (.int bs.sum)
  | _ => none
def hList : List PyData → Option Sl
  | [.list xs] => some (.ow xs)
  | [.tuple xs] => some (.ow xs)
  | _ => none
def hTuple : List PyData → Option Sl
  | [.list xs] => some (.sh (.tuple xs))
  | [.tuple xs] => some (.sh (.tuple xs))
  | _ => none
def maxI : Int → List Int → Int
  | a, [] => a
  | a, b :: r => maxI (if b > a then b else a) r
def minI : Int → List Int → Int
  | a, [] => a
  | a, b :: r => minI (if b < a then b else a) r
def hMax : List PyData → Option Sl
  | [.int i, .int j] => some (.sh (.int (if j > i then j else i)))
  | [.list xs] => match intsO xs with
    | some (a :: r) => some (.sh (.int (maxI a r)))
    | _ => none
  | _ => none
def hMin : List PyData → Option Sl
  | [.int i, .int j] => some (.sh (.int (if j < i then j else i)))
  | [.list xs] => match intsO xs with
    | some (a :: r) => some (.sh (.int (minI a r)))
    | _ => none
  | _ => none
theorem maxI_spec : ∀ (r : List Int) (a : Int), maxI a r ∈ a :: r ∧ ∀ x ∈ a :: r, x ≤ maxI a r
  | [], a => ⟨List.mem_singleton.mpr rfl, fun x hx => by rw [List.mem_singleton.mp hx]; exact Int.le_refl a⟩
  | b :: r, a => by
    obtain ⟨h1, h2⟩ := maxI_spec r (if b > a then b else a)
    refine ⟨?_, fun x hx => ?_⟩
    · show maxI (if b > a then b else a) r ∈ a :: b :: r
      rcases List.mem_cons.mp h1 with h | h
      · rw [h]
        split
        · exact List.mem_cons_of_mem _ List.mem_cons_self
        · exact List.mem_cons_self
      · exact List.mem_cons_of_mem _ (List.mem_cons_of_mem _ h)
    · show x ≤ maxI (if b > a then b else a) r
      have h3 := h2 _ List.mem_cons_self
      have ha : a ≤ (if b > a then b else a) := by split <;> omega
      have hb : b ≤ (if b > a then b else a) := by split <;> omega
      rcases List.mem_cons.mp hx with h | h
      · subst h
        exact Int.le_trans ha h3
      · rcases List.mem_cons.mp h with h | h
        · subst h
          exact Int.le_trans hb h3
        · exact h2 x (List.mem_cons_of_mem _ h)
theorem minI_spec : ∀ (r : List Int) (a : Int), minI a r ∈ a :: r ∧ ∀ x ∈ a :: r, minI a r ≤ x
  | [], a => ⟨List.mem_singleton.mpr rfl, fun x hx => by rw [List.mem_singleton.mp hx]; exact Int.le_refl a⟩
  | b :: r, a => by
    obtain ⟨h1, h2⟩ := minI_spec r (if b < a then b else a)
    refine ⟨?_, fun x hx => ?_⟩
    · show minI (if b < a then b else a) r ∈ a :: b :: r
      rcases List.mem_cons.mp h1 with h | h
      · rw [h]
        split
        · exact List.mem_cons_of_mem _ List.mem_cons_self
        · exact List.mem_cons_self
      · exact List.mem_cons_of_mem _ (List.mem_cons_of_mem _ h)
    · show minI (if b < a then b else a) r ≤ x
      have h3 := h2 _ List.mem_cons_self
      have ha : (if b < a then b else a) ≤ a := by split <;> omega
      have hb : (if b < a then b else a) ≤ b := by split <;> omega
      rcases List.mem_cons.mp hx with h | h
      · subst h
        exact Int.le_trans h3 ha
      · rcases List.mem_cons.mp h with h | h
        · subst h
          exact Int.le_trans h3 hb
        · exact h2 x (List.mem_cons_of_mem _ h)
theorem drAll_one {B : Hp} {vs : List V} {d : PyData} (h : DrAll B vs [d]) : ∃ v, vs = [v] ∧ Dr B v d := by
  cases h with
  | cons h1 h2 =>
    cases h2
    exact ⟨_, rfl, h1⟩
theorem drAll_two {B : Hp} {vs : List V} {d e : PyData} (h : DrAll B vs [d, e]) : ∃ v w, vs = [v, w] ∧ Dr B v d ∧ Dr B w e := by
  cases h with
  | cons h1 h2 =>
    obtain ⟨w, rfl, h3⟩ := drAll_one h2
    exact ⟨_, w, rfl, h1, h3⟩
theorem cd_sh {Z : Zn} {B : Hp} {σ : L2.St} {H : Hp} {ρ : En} {d : PyData} {v : V} {Q : VK} (q : ∀ B' H' v, Same B B' → EnvOk Z B' σ H' ρ → RepR Z B' H' (NotOwn σ ρ) v (.sh d) → Q v H') (ok : EnvOk Z B σ H ρ) (h : Dr B v d) : Q v H := q B H v (Same.refl B) ok (.inl ⟨d, rfl, h⟩)
theorem cd_len {K : PySem.W.Frag} : CallD (fun xs H Q => ∃ p ys, xs = [.ref p] ∧ (SqL K H p ys ∨ SqT K H p ys) ∧ Q (.int ys.length) H) hLen := fun Z B σ H ρ vs ds s ok dv hz Q q => by
  unfold hLen at hz
  split at hz
  · cases hz
    obtain ⟨v, rfl, h1⟩ := drAll_one dv
    cases h1 with
    | lst h2 h3 =>
      refine ⟨_, _, rfl, .inl (SqL.of (ok.le _ _ h2)), ?_⟩
      rw [h3.length]
      exact cd_sh q ok (.int _)
  · cases hz
    obtain ⟨v, rfl, h1⟩ := drAll_one dv
    cases h1 with
    | tup h2 h3 =>
      refine ⟨_, _, rfl, .inr (SqT.of (ok.le _ _ h2)), ?_⟩
      rw [h3.length]
      exact cd_sh q ok (.int _)
  · cases hz
theorem cd_abs : CallD (fun xs H Q => ∃ i, xs = [.int i] ∧ Q (.int (if i < 0 then -i else i)) H) hAbs := fun Z B σ H ρ vs ds s ok dv hz Q q => by
  unfold hAbs at hz
  split at hz
  · cases hz
    obtain ⟨v, rfl, h1⟩ := drAll_one dv
    cases h1
    exact ⟨_, rfl, cd_sh q ok (.int _)⟩
  · cases hz
theorem cd_all {K : PySem.W.Frag} : CallD (rAll K) hAll := fun Z B σ H ρ vs ds s ok dv hz Q q => by
  unfold hAll at hz
  split at hz
  · obtain ⟨bs, h1, h2⟩ := Option.map_eq_some_iff.mp hz
    cases h2
    have e1 := boolsO_eq h1
    subst e1
    obtain ⟨v, rfl, h3⟩ := drAll_one dv
    cases h3 with
    | lst h4 h5 =>
      have e2 := h5.bools_inv
      subst e2
      exact ⟨_, bs, rfl, SqL.of (ok.le _ _ h4), cd_sh q ok (.bl _)⟩
  · cases hz
theorem cd_sum {K : PySem.W.Frag} : CallD (rSum K) hSum := fun Z B σ H ρ vs ds s ok dv hz Q q => by
  unfold hSum at hz
  split at hz
  · obtain ⟨bs, h1, h2⟩ := Option.map_eq_some_iff.mp hz
    cases h2
    have e1 := intsO_eq h1
    subst e1
    obtain ⟨v, rfl, h3⟩ := drAll_one dv
    cases h3 with
    | lst h4 h5 =>
      have e2 := h5.ints_inv
      subst e2
      exact ⟨_, bs, rfl, SqL.of (ok.le _ _ h4), cd_sh q ok (.int _)⟩
  · cases hz
theorem cd_list {K : PySem.W.Frag} : CallD (fun xs H Q => ∃ p ys, xs = [.ref p] ∧ (SqL K H p ys ∨ SqT K H p ys) ∧ ∀ l, H l = none → Q (.ref l) (upd H l (.lst ys))) hList := fun Z B σ H ρ vs ds s ok dv hz Q q => by
  unfold hList at hz
  split at hz
  · cases hz
    obtain ⟨v, rfl, h1⟩ := drAll_one dv
    cases h1 with
    | lst h2 h3 =>
      refine ⟨_, _, rfl, .inl (SqL.of (ok.le _ _ h2)), fun l hl => ?_⟩
      obtain ⟨ok4, r4⟩ := own_lst ok h3 hl
      exact q B _ _ (Same.refl B) ok4 r4
  · cases hz
    obtain ⟨v, rfl, h1⟩ := drAll_one dv
    cases h1 with
    | tup h2 h3 =>
      refine ⟨_, _, rfl, .inr (SqT.of (ok.le _ _ h2)), fun l hl => ?_⟩
      obtain ⟨ok4, r4⟩ := own_lst ok h3 hl
      exact q B _ _ (Same.refl B) ok4 r4
  · cases hz
theorem cd_tuple {K : PySem.W.Frag} : CallD (fun xs H Q => ∃ p ys, xs = [.ref p] ∧ ((SqL K H p ys ∧ ∀ l, H l = none → Q (.ref l) (upd H l (.tup ys))) ∨ (SqT K H p ys ∧ Q (.ref p) H))) hTuple := fun Z B σ H ρ vs ds s ok dv hz Q q => by
  unfold hTuple at hz
  split at hz
  · cases hz
    obtain ⟨v, rfl, h1⟩ := drAll_one dv
    cases h1 with
    | lst h2 h3 =>
      refine ⟨_, _, rfl, .inl ⟨SqL.of (ok.le _ _ h2), fun l hl => ?_⟩⟩
      obtain ⟨s4, ok4, d4⟩ := lay_tup ok h3 hl
      exact q _ _ _ s4 ok4 (.inl ⟨_, rfl, d4⟩)
  · cases hz
    obtain ⟨v, rfl, h1⟩ := drAll_one dv
    cases h1 with
    | tup h2 h3 => exact ⟨_, _, rfl, .inr ⟨SqT.of (ok.le _ _ h2), cd_sh q ok (.tup h2 h3)⟩⟩
  · cases hz
theorem cd_max {K : PySem.W.Frag} : CallD (fun xs H Q => (∃ i j, xs = [.int i, .int j] ∧ Q (.int (if j > i then j else i)) H) ∨ rMax K xs H Q) hMax := fun Z B σ H ρ vs ds s ok dv hz Q q => by
  unfold hMax at hz
  split at hz
  · cases hz
    obtain ⟨v, w, rfl, h1, h2⟩ := drAll_two dv
    cases h1
    cases h2
    exact .inl ⟨_, _, rfl, cd_sh q ok (.int _)⟩
  · split at hz
    · rename_i a r h1
      cases hz
      have e1 := intsO_eq h1
      subst e1
      obtain ⟨v, rfl, h3⟩ := drAll_one dv
      cases h3 with
      | lst h4 h5 =>
        have e2 := DrAll.ints_inv (a :: r) h5
        subst e2
        refine .inr ⟨_, a :: r, rfl, SqL.of (ok.le _ _ h4), by simp, fun m hm hle => ?_⟩
        obtain ⟨g1, g2⟩ := maxI_spec r a
        have e3 : m = maxI a r := Int.le_antisymm (g2 m hm) (hle _ g1)
        subst e3
        exact cd_sh q ok (.int _)
    · cases hz
  · cases hz
theorem cd_min {K : PySem.W.Frag} : CallD (fun xs H Q => (∃ i j, xs = [.int i, .int j] ∧ Q (.int (if j < i then j else i)) H) ∨ rMin K xs H Q) hMin := fun Z B σ H ρ vs ds s ok dv hz Q q => by
  unfold hMin at hz
  split at hz
  · cases hz
    obtain ⟨v, w, rfl, h1, h2⟩ := drAll_two dv
    cases h1
    cases h2
    exact .inl ⟨_, _, rfl, cd_sh q ok (.int _)⟩
  · split at hz
    · rename_i a r h1
      cases hz
      have e1 := intsO_eq h1
      subst e1
      obtain ⟨v, rfl, h3⟩ := drAll_one dv
      cases h3 with
      | lst h4 h5 =>
        have e2 := DrAll.ints_inv (a :: r) h5
        subst e2
        refine .inr ⟨_, a :: r, rfl, SqL.of (ok.le _ _ h4), by simp, fun m hm hle => ?_⟩
        obtain ⟨g1, g2⟩ := minI_spec r a
        have e3 : m = minI a r := Int.le_antisymm (hle _ g1) (g2 m hm)
        subst e3
        exact cd_sh q ok (.int _)
    · cases hz
  · cases hz
end

/-! GStm: targets, statements, what is walked, loops, comprehensions. -/

/-! ### targets -/
abbrev FG := PyData → En → Option En
abbrev FGs := List PyData → En → Option En
/-- the slots outside js are as they were -/
structure SlotsOut (js : List Nat) (σ σ' : L2.St) : Prop where
  len : σ'.length = σ.length
  out : ∀ j, j ∉ js → σ'[j]? = σ[j]?
/-- a target: it touches the slots js alone -/
def tG (js : List Nat) (g : FG) : TG := fun v σ H Q => ∃ Z B ρ d ρ', EnvOk Z B σ H ρ ∧ Dr B v d ∧ g d ρ = some ρ' ∧ ∀ σ', EnvOk Z B σ' H ρ' → SlotsOut js σ σ' → Q σ' H
def tGs (js : List Nat) (g : FGs) : TGs := fun vs σ H Q => ∃ Z B ρ ds ρ', EnvOk Z B σ H ρ ∧ DrAll B vs ds ∧ g ds ρ = some ρ' ∧ ∀ σ', EnvOk Z B σ' H ρ' → SlotsOut js σ σ' → Q σ' H
abbrev DG (X : Cx) (e : Expr) (js : List Nat) (g : FG) := PG X e (tG js g)
abbrev DGs (X : Cx) (es : List Expr) (js : List Nat) (g : FGs) := PGs X es (tGs js g)
def gVar (i : Nat) : FG := fun d ρ => some (ρ.set i (.sh d))
def gNo : FGs := fun ds ρ => match ds with
  | [] => some ρ
  | _ => none
def gCo (g : FG) (h : FGs) : FGs := fun ds ρ => match ds with
  | d :: ds => (g d ρ).bind fun ρ1 => h ds ρ1
  | _ => none
def gTu (n : Nat) (h : FGs) : FG := fun d ρ => match d with
  | .tuple ds => if ds.length = n then h ds ρ else none
  | _ => none
theorem pg_imp {X : Cx} {e : Expr} {t t' : TG} (h : PG X e t) (i : ∀ v σ H Q, t' v σ H Q → t v σ H Q) : PG X e t' := ⟨fun pins s σ H v u Q I r q => h.run pins s σ H v u Q I r (i v σ H Q q)⟩
theorem pgs_imp {X : Cx} {es : List Expr} {t t' : TGs} (h : PGs X es t) (i : ∀ v σ H Q, t' v σ H Q → t v σ H Q) : PGs X es t' := ⟨fun pins s σ H v u Q I r q => h.run pins s σ H v u Q I r (i v σ H Q q)⟩
theorem set_other {σ : L2.St} {i j : Nat} {x : Option V} (h : j ∉ [i]) : (σ.set i x)[j]? = σ[j]? := List.getElem?_set_ne (fun e => h (by rw [e]; exact List.mem_singleton.mpr rfl))
section
variable {X : Cx} {e : Expr} {es : List Expr} {pos : Pos}
theorem dg_name (i : Nat) {x : Str} (hN : X.N.Nodup) (hi : X.N[i]? = some x := by rfl) (hx : Loc X.env.scope x := by first | exact Or.inl rfl | exact Or.inr rfl) (hf : X.fn x = true ∨ X.env.scope.names.lookup x = some .local := by first | exact .inl rfl | exact .inr rfl | assumption) :
    DG X (.Name x pos) [i] (gVar i) := pg_imp (pg_name hN hi hx hf) fun v σ H Q ⟨Z, B, ρ, d, ρ', ok, dv, e, q⟩ => by
  cases e
  exact q _ (ok.setSh i dv) ⟨List.length_set, fun j hj => set_other hj⟩
theorem dgs_nil : DGs X [] [] gNo := pgs_imp pgs_nil fun vs σ H Q ⟨Z, B, ρ, ds, ρ', ok, dv, e, q⟩ => by
  unfold gNo at e
  split at e
  · cases e
    cases dv
    exact ⟨rfl, q σ ok ⟨rfl, fun _ _ => rfl⟩⟩
  · cases e
theorem dgs_cons {js ks : List Nat} {g : FG} {h : FGs} (h1 : DG X e js g) (h2 : DGs X es ks h) (hs : (assignEach (e :: es) X.env).map (·.2) = assign e X.env :: (assignEach es X.env).map (·.2) := by rfl) : DGs X (e :: es) (js ++ ks) (gCo g h) :=
  pgs_imp (pgs_cons h1 h2 hs) fun vs σ H Q ⟨Z, B, ρ, ds, ρ', ok, dv, e, q⟩ => by
  unfold gCo at e
  split at e
  · rename_i d ds'
    obtain ⟨ρ1, e1, e2⟩ := Option.bind_eq_some_iff.mp e
    cases dv with
    | cons d1 d2 =>
      exact ⟨_, _, rfl, Z, B, ρ, d, ρ1, ok, d1, e1, fun σ1 ok1 k1 => ⟨Z, B, ρ1, ds', ρ', ok1, d2, e2, fun σ2 ok2 k2 => q σ2 ok2 ⟨k2.len.trans k1.len, fun j hj => by
        rw [k2.out j fun z => hj (List.mem_append_right _ z), k1.out j fun z => hj (List.mem_append_left _ z)]⟩⟩⟩
  · cases e
theorem dg_tup {js : List Nat} {h : FGs} {k n : Nat} (hg : DGs X es js h) (hc : X.calm = true := by rfl) (hn : (assignEach es X.env).length = n := by rfl) (hst : (assignEach es X.env).findIdx? (·.1) = none := by rfl) : DG X (.Tuple es k pos) js (gTu n h) :=
  pg_imp (pg_tup hc hg hn hst) fun v σ H Q ⟨Z, B, ρ, d, ρ', ok, dv, e, q⟩ => by
  unfold gTu at e
  split at e
  · split at e
    · rename_i ds hl
      cases dv with
      | tup h1 h2 => exact ⟨_, _, rfl, SqT.of (ok.le _ _ h1), by rw [h2.length]; exact hl, Z, B, ρ, ds, ρ', ok, h2, e, q⟩
    · cases e
  · cases e
end

/-! ### statements -/
inductive Out where
  | nx (ρ : En)
  | rt (s : Sl) (ρ : En)
  | bk (ρ : En)
  | ct (ρ : En)
abbrev FS := En → Option Out
def OutOk (D : Ends) (Z : Zn) (B' : Hp) : Out → Prop
  | .nx ρ' => ∀ σ' H', EnvOk Z B' σ' H' ρ' → D.nx σ' H'
  | .rt s ρ' => ∀ σ' H' v, EnvOk Z B' σ' H' ρ' → RepR Z B' H' (NotOwn σ' ρ') v s → D.rt v H'
  | .bk ρ' => ∀ σ' H', EnvOk Z B' σ' H' ρ' → D.bk σ' H'
  | .ct ρ' => ∀ σ' H', EnvOk Z B' σ' H' ρ' → D.ct σ' H'
def tS (F : FS) : TS := fun D σ H => ∃ Z B ρ o, EnvOk Z B σ H ρ ∧ F ρ = some o ∧ ∀ B', Same B B' → OutOk D Z B' o
abbrev DS (X : Cx) (st : Stmt) (F : FS) := PS X st (tS F)
abbrev DSs (X : Cx) (st : List Stmt) (F : FS) := PSs X st (tS F)
theorem ps_imp {X : Cx} {st : Stmt} {t t' : TS} (h : PS X st t) (i : ∀ D σ H, t' D σ H → t D σ H) : PS X st t' := ⟨fun pins s σ H D I q => h.run pins s σ H D I (i D σ H q)⟩
theorem pss_imp {X : Cx} {st : List Stmt} {t t' : TS} (h : PSs X st t) (i : ∀ D σ H, t' D σ H → t D σ H) : PSs X st t' := ⟨fun pins s σ H D I q => h.run pins s σ H D I (i D σ H q)⟩

def fNext : FS := fun ρ => some (.nx ρ)
def fSeq (F G : FS) : FS := fun ρ => (F ρ).bind fun o => match o with
  | .nx ρ1 => G ρ1
  | o => some o
def fSet (i : Nat) (f : FR) : FS := fun ρ => (f ρ).map fun p => .nx (p.2.set i p.1)
def fAsg (g : FG) (f : FE) : FS := fun ρ => (f ρ).bind fun p => (g p.1 p.2).map .nx
def fRet (f : FR) : FS := fun ρ => (f ρ).map fun p => .rt p.1 p.2
def fRetN : FS := fun ρ => some (.rt (.sh .none) ρ)
def fIf (c : FT) (F G : FS) : FS := fun ρ => (c ρ).bind fun p => if p.1 = true then F p.2 else G p.2
def fDrop (f : FE) : FS := fun ρ => (f ρ).map fun p => .nx p.2
def fNev : FS := fun _ => none
section
variable {X : Cx} {st : Stmt} {rest : List Stmt} {F F2 : FS} {e : Expr} {f : FE} {r : FR} {pos : Pos}
theorem dss_nil : DSs X [] fNext := pss_imp pss_nil fun D σ H ⟨Z, B, ρ, o, ok, e, q⟩ => by
  cases e
  exact q B (Same.refl B) σ H ok
theorem dss_one (h : DS X st F) : DSs X [st] F := pss_one h
theorem dss_cons (h1 : DS X st F) (h2 : DSs X rest F2) : DSs X (st :: rest) (fSeq F F2) := pss_imp (pss_cons h1 h2) fun D σ H ⟨Z, B, ρ, o, ok, e, q⟩ => by
  unfold fSeq at e
  obtain ⟨o1, e1, e2⟩ := Option.bind_eq_some_iff.mp e
  refine ⟨Z, B, ρ, o1, ok, e1, fun B1 s1 => ?_⟩
  cases o1 with
  | nx ρ1 => exact fun σ1 H1 ok1 => ⟨Z, B1, ρ1, o, ok1, e2, fun B2 s2 => q B2 (s1.trans s2)⟩
  | rt s ρ1 =>
    cases e2
    exact q B1 s1
  | bk ρ1 =>
    cases e2
    exact q B1 s1
  | ct ρ1 =>
    cases e2
    exact q B1 s1
theorem EnvOk.setR {Z : Zn} {B : Hp} {σ : L2.St} {H : Hp} {ρ : En} {v : V} {s : Sl} (ok : EnvOk Z B σ H ρ) (i : Nat) (h : RepR Z B H (NotOwn σ ρ) v s) : EnvOk Z B (σ.set i (some v)) H (ρ.set i s) := by
  rcases h with ⟨d, rfl, h⟩ | ⟨a, o, rfl, h1, h2, h3, h4, h5, h6⟩
  · exact ok.setSh i h
  · exact ok.setOw i h1 h2 h3 h4 h5 fun z => by rw [z] at h6; cases h6
theorem ds_set (i : Nat) {x : Str} {pos' : Pos} (hN : X.N.Nodup) (he : DR X e r) (hi : X.N[i]? = some x := by rfl) (hx : Loc X.env.scope x := by first | exact Or.inl rfl | exact Or.inr rfl) (hs : swapsWith e (some (.Name x pos')) pos.line X.env = pure false := by rfl) (hf : X.fn x = true ∨ X.env.scope.names.lookup x = some .local := by first | exact .inl rfl | exact .inr rfl | assumption) :
    DS X (.Assign [.Name x pos'] e pos) (fSet i r) := ps_imp (ps_set hN hi hx he hs hf) fun D σ H ⟨Z, B, ρ, o, ok, e, q⟩ => by
  unfold fSet at e
  obtain ⟨⟨s, ρ1⟩, e1, e2⟩ := Option.map_eq_some_iff.mp e
  cases e2
  exact ⟨Z, B, ρ, s, ρ1, ok, e1, fun B1 H1 v s1 ok1 r1 => q B1 s1 _ H1 (ok1.setR i r1)⟩
theorem ds_asg {tg : Expr} {js : List Nat} {g : FG} (he : DE X e f) (hg : DG X tg js g) (hs : swapsWithSole [tg] e pos.line X.env = pure false := by rfl) (hw : swappedStores [tg] e X.env = pure none := by rfl)
    (h1 : (assignEach [tg] X.env).map (·.2) = [assign tg X.env] := by rfl) : DS X (.Assign [tg] e pos) (fAsg g f) := ps_imp (ps_asg he hg hs hw h1) fun D σ H ⟨Z, B, ρ, o, ok, e, q⟩ => by
  unfold fAsg at e
  obtain ⟨⟨d, ρ1⟩, e1, e2⟩ := Option.bind_eq_some_iff.mp e
  obtain ⟨ρ2, e3, e4⟩ := Option.map_eq_some_iff.mp e2
  cases e4
  exact ⟨Z, B, ρ, d, ρ1, ok, e1, fun B1 H1 v s1 ok1 dv => ⟨Z, B1, ρ1, d, ρ2, ok1, dv, e3, fun σ2 ok2 _ => q B1 s1 σ2 H1 ok2⟩⟩
theorem ds_ret (he : DR X e r) : DS X (.Return (some e) pos) (fRet r) := ps_imp (ps_ret he) fun D σ H ⟨Z, B, ρ, o, ok, e, q⟩ => by
  unfold fRet at e
  obtain ⟨⟨s, ρ1⟩, e1, e2⟩ := Option.map_eq_some_iff.mp e
  cases e2
  exact ⟨Z, B, ρ, s, ρ1, ok, e1, fun B1 H1 v s1 ok1 r1 => q B1 s1 σ H1 v ok1 r1⟩
theorem ds_retN : DS X (.Return none pos) fRetN := ps_imp ps_retN fun D σ H ⟨Z, B, ρ, o, ok, e, q⟩ => by
  cases e
  exact q B (Same.refl B) σ H _ ok (.inl ⟨_, rfl, .non⟩)
theorem ds_if {c : Expr} {a b : List Stmt} {u : FT} (hc : DT X c u) (ha : DSs X a F) (hb : DSs X b F2) : DS X (.If c a b pos) (fIf u F F2) := ps_imp (ps_if hc ha hb) fun D σ H ⟨Z, B, ρ, o, ok, e, q⟩ => by
  unfold fIf at e
  obtain ⟨⟨c, ρ1⟩, e1, e2⟩ := Option.bind_eq_some_iff.mp e
  refine ⟨Z, B, ρ, c, ρ1, ok, e1, fun B1 H1 s1 ok1 => ?_⟩
  cases c with
  | true =>
    rw [if_pos rfl] at e2 ⊢
    exact ⟨Z, B1, ρ1, o, ok1, e2, fun B2 s2 => q B2 (s1.trans s2)⟩
  | false =>
    rw [if_neg Bool.false_ne_true] at e2 ⊢
    exact ⟨Z, B1, ρ1, o, ok1, e2, fun B2 s2 => q B2 (s1.trans s2)⟩
theorem ds_drop (he : DE X e f) (hs : swapsWith e none pos.line X.env = pure false := by rfl) : DS X (.Expr e pos) (fDrop f) := ps_imp (ps_expr he hs) fun D σ H ⟨Z, B, ρ, o, ok, e, q⟩ => by
  unfold fDrop at e
  obtain ⟨⟨d, ρ1⟩, e1, e2⟩ := Option.map_eq_some_iff.mp e
  cases e2
  exact ⟨Z, B, ρ, d, ρ1, ok, e1, fun B1 H1 v s1 ok1 dv => q B1 s1 σ H1 ok1⟩
theorem ds_nev : DS X st fNev := ps_imp ps_never fun D σ H ⟨Z, B, ρ, o, ok, e, q⟩ => by cases e
theorem dss_nev : DSs X rest fNev := pss_imp pss_never fun D σ H ⟨Z, B, ρ, o, ok, e, q⟩ => by cases e
theorem ds_pass : DS X (.Pass pos) fNext := ps_imp ps_pass fun D σ H ⟨Z, B, ρ, o, ok, e, q⟩ => by
  cases e
  exact q B (Same.refl B) σ H ok

/-- an own object given away by its name -/
def fGive (i : Nat) : FR := fun ρ => match ρ[i]? with
  | some (.un) => none
  | some (.ad _) => none
  | some (.io _) => none
  | some (.lk _) => none
  | some (.lt _) => none
  | some (.pi) => none
  | some (.sh d) => some (.sh d, ρ)
  | some s => some (s, ρ.set i .un)
  | none => none
theorem give_own {Z : Zn} {B : Hp} {σ : L2.St} {H : Hp} {ρ : En} {i : Nat} {s : Sl} (ok : EnvOk Z B σ H ρ) (h : ρ[i]? = some s) (hs : isOwn s = true) (hio : isIo s = false) :
    ∃ a, σ[i]? = some (some (.ref a)) ∧ EnvOk Z B σ H (ρ.set i .un) ∧ RepR Z B H (NotOwn σ (ρ.set i .un)) (.ref a) s := by
  obtain ⟨a, o, q1, q2, q3, q4, q5⟩ := ok.ow i s h hs
  refine ⟨a, q1, ok.forget i, .inr ⟨a, o, rfl, q2, q3, q4, fun j t e1 e2 e3 => ?_, q5, hio⟩⟩
  rcases getElem?_set_cases e1 with ⟨rfl, z2, z3⟩ | ⟨z1, z2⟩
  · subst z2
    cases e2
  · exact z1 (ok.inj j i t s a z2 e2 h hs e3 q1)
theorem dr_give (i : Nat) {x : Str} (hN : X.N[i]? = some x := by rfl) (hv : Vis X.env.scope x := by first | exact Or.inl rfl | exact Or.inr (Or.inl rfl) | exact Or.inr (Or.inr rfl)) (hd : (x == ("__debug__" : Str)) = false := by decide)
    (hcd : (x == ("__classdict__" : Str)) = false := by decide) : DR X (.Name x pos) (fGive i) := pe_imp (pe_var hN hv hd hcd) fun σ H Q ⟨Z, B, ρ, s, ρ', ok, e, q⟩ => by
  unfold fGive at e
  split at e
  · cases e
  · cases e
  · cases e
  · cases e
  · cases e
  · cases e
  · rename_i d h1
    cases e
    obtain ⟨v, h2, h3⟩ := ok.sh i d h1
    exact ⟨v, h2, q B H v (Same.refl B) ok (.inl ⟨d, rfl, h3⟩)⟩
  · rename_i t n1 n2 n3 n5 n6 n7 n4 h1
    cases e
    have h2 : isOwn s = true := by
      cases s with
      | un => exact (n1 rfl).elim
      | ad v => exact (n2 v rfl).elim
      | lk v => exact (n5 v rfl).elim
      | lt v => exact (n6 v rfl).elim
      | pi => exact (n7 rfl).elim
      | sh d => exact (n4 d rfl).elim
      | _ => rfl
    have h3 : isIo s = false := by
      cases s with
      | io v => exact (n3 v rfl).elim
      | _ => rfl
    obtain ⟨a, q1, ok2, r2⟩ := give_own ok h1 h2 h3
    exact ⟨.ref a, q1, q B H _ (Same.refl B) ok2 r2⟩
  · cases e

/-! ### own lists changed -/
def fAppend (i : Nat) (f : FE) : FS := fun ρ => (f ρ).bind fun p => (ownL ρ[i]?).bind fun _ => (ownL p.2[i]?).bind fun xs =>
  if xs.length < 16777216 then some (.nx (p.2.set i (newL p.2[i]? (xs ++ [p.1])))) else none
def fExtend (i : Nat) (f : FE) : FS := fun ρ => (f ρ).bind fun p => (ownL ρ[i]?).bind fun _ => (ownL p.2[i]?).bind fun xs => match p.1 with
  | .list ys => if xs.length + ys.length ≤ 16777216 then some (.nx (p.2.set i (newL p.2[i]? (xs ++ ys)))) else none
  | _ => none
def fPut (i : Nat) (k : FE) (f : FE) : FS := fun ρ => (f ρ).bind fun p => (k p.2).bind fun q => (ownL p.2[i]?).bind fun _ => (ownL q.2[i]?).bind fun xs => match q.1 with
  | .int z => (ixN xs.length z).map fun j => .nx (q.2.set i (newL q.2[i]? (xs.set j p.1)))
  | _ => none
theorem ds_append (i : Nat) {x : Str} {px apos cpos : Pos} (he : DE X e f) (hN : X.N[i]? = some x := by rfl) (hv : Vis X.env.scope x := by first | exact Or.inl rfl | exact Or.inr (Or.inl rfl) | exact Or.inr (Or.inr rfl)) (hd : (x == ("__debug__" : Str)) = false := by decide)
    (hcd : (x == ("__classdict__" : Str)) = false := by decide)
    (hbase : attributeBase (.Name x px) "append" X.env (eval (.Name x px) X.env) = eval (.Name x px) X.env := by rfl)
    (hfew : ((backTo cpos (starEach [e] X.env)).all (fun x => !x.1) && (backToKw cpos (keywordEach [] X.env)).all (fun x => x.1.isSome)
      && decide ([e].length + ([] : List Keyword).length + (if ([] : List Keyword).isEmpty then 0 else 1) < 30)) = true := by rfl)
    (hline : (apos.endLine == cpos.line) = true := by rfl) (hs : starEach [e] X.env = (false, eval e X.env) :: starEach [] X.env := by rfl) (hplain : (backTo cpos (starEach [] X.env)).any (·.1) = false := by rfl)
    (hsw : swapsWith (.Call (.Attribute (.Name x px) "append" apos) [e] [] cpos) none pos.line X.env = pure false := by rfl) :
    DS X (.Expr (.Call (.Attribute (.Name x px) "append" apos) [e] [] cpos) pos) (fAppend i f) :=
  ps_imp (ps_expr (pe_bm PySem.F.plainAttrs_list PySem.F.slot_list_append PySem.F.type_list_append mt_append (pe_var hN hv hd hcd) (pa_cons he pa_nil hs) hbase hfew hline hs hplain) hsw) fun D σ H ⟨Z, B, ρ, o, ok, e, q⟩ => by
  unfold fAppend at e
  obtain ⟨⟨d, ρ1⟩, e1, e2⟩ := Option.bind_eq_some_iff.mp e
  obtain ⟨xs0, h0, e3⟩ := Option.bind_eq_some_iff.mp e2
  obtain ⟨xs, h1, e4⟩ := Option.bind_eq_some_iff.mp e3
  split at e4
  · rename_i hl
    cases e4
    obtain ⟨_, a0, vs0, _, _, g1, g2, _⟩ := own_at ok h0
    refine ⟨.ref a0, g1, .inl ⟨rfl, vs0, SqL.of g2⟩, Z, B, ρ, d, ρ1, ok, e1, fun B1 H1 v s1 ok1 dv => ?_⟩
    obtain ⟨t, a, vs, k6, k7, k1, k2, k3, k4, k5, k8⟩ := own_at ok1 h1
    have e5 := own_same g1 k1
    subst e5
    refine ⟨a0, vs, v, rfl, rfl, k2, by rw [k5.length]; exact hl, ?_⟩
    exact q B1 s1 σ _ (own_mut ok1 k6 k7 k1 k8 (DrAll.app k5 (.cons dv .nil)))
  · cases e4
theorem ds_extend (i : Nat) {x : Str} {px apos cpos : Pos} (he : DE X e f) (hN : X.N[i]? = some x := by rfl) (hv : Vis X.env.scope x := by first | exact Or.inl rfl | exact Or.inr (Or.inl rfl) | exact Or.inr (Or.inr rfl)) (hd : (x == ("__debug__" : Str)) = false := by decide)
    (hcd : (x == ("__classdict__" : Str)) = false := by decide)
    (hbase : attributeBase (.Name x px) "extend" X.env (eval (.Name x px) X.env) = eval (.Name x px) X.env := by rfl)
    (hfew : ((backTo cpos (starEach [e] X.env)).all (fun x => !x.1) && (backToKw cpos (keywordEach [] X.env)).all (fun x => x.1.isSome)
      && decide ([e].length + ([] : List Keyword).length + (if ([] : List Keyword).isEmpty then 0 else 1) < 30)) = true := by rfl)
    (hline : (apos.endLine == cpos.line) = true := by rfl) (hs : starEach [e] X.env = (false, eval e X.env) :: starEach [] X.env := by rfl) (hplain : (backTo cpos (starEach [] X.env)).any (·.1) = false := by rfl)
    (hsw : swapsWith (.Call (.Attribute (.Name x px) "extend" apos) [e] [] cpos) none pos.line X.env = pure false := by rfl) :
    DS X (.Expr (.Call (.Attribute (.Name x px) "extend" apos) [e] [] cpos) pos) (fExtend i f) :=
  ps_imp (ps_expr (pe_bm PySem.F.plainAttrs_list PySem.F.slot_list_extend PySem.F.type_list_extend mt_extend (pe_var hN hv hd hcd) (pa_cons he pa_nil hs) hbase hfew hline hs hplain) hsw) fun D σ H ⟨Z, B, ρ, o, ok, e, q⟩ => by
  unfold fExtend at e
  obtain ⟨⟨d, ρ1⟩, e1, e2⟩ := Option.bind_eq_some_iff.mp e
  obtain ⟨xs0, h0, e3⟩ := Option.bind_eq_some_iff.mp e2
  obtain ⟨xs, h1, e4⟩ := Option.bind_eq_some_iff.mp e3
  split at e4
  · rename_i ys h2
    split at e4
    · rename_i hl
      cases e4
      have e6 : d = .list ys := h2
      subst e6
      obtain ⟨_, a0, vs0, _, _, g1, g2, _⟩ := own_at ok h0
      refine ⟨.ref a0, g1, .inl ⟨rfl, vs0, SqL.of g2⟩, Z, B, ρ, _, ρ1, ok, e1, fun B1 H1 v s1 ok1 dv => ?_⟩
      obtain ⟨t, a, vs, k6, k7, k1, k2, k3, k4, k5, k8⟩ := own_at ok1 h1
      have e5 := own_same g1 k1
      subst e5
      cases dv with
      | lst h3 h4 =>
        refine ⟨a0, _, vs, _, rfl, rfl, k2, ok1.le _ _ h3, by rw [k5.length, h4.length]; exact hl, ?_⟩
        exact q B1 s1 σ _ (own_mut ok1 k6 k7 k1 k8 (DrAll.app k5 h4))
    · cases e4
  · cases e4
theorem ds_put (i : Nat) {x : Str} {px spos : Pos} {k : Expr} {g : FE} (he : DE X e f) (hk : DE X k g) (hN : X.N[i]? = some x := by rfl) (hv : Vis X.env.scope x := by first | exact Or.inl rfl | exact Or.inr (Or.inl rfl) | exact Or.inr (Or.inr rfl)) (hd : (x == ("__debug__" : Str)) = false := by decide)
    (hcd : (x == ("__classdict__" : Str)) = false := by decide)
    (ha : ∀ v, assign (.Subscript (.Name x px) k spos) X.env v = (do
      let ov ← holding [v] (eval (.Name x px) X.env)
      let iv ← holding [v, ov] (eval k X.env)
      standAt spos
      holding [v, ov, iv] (setItem ov iv v)
      release [v, ov, iv] []) := by intro _; rfl)
    (hs : swapsWithSole [.Subscript (.Name x px) k spos] e pos.line X.env = pure false := by rfl) (hw : swappedStores [.Subscript (.Name x px) k spos] e X.env = pure none := by rfl)
    (h1 : (assignEach [.Subscript (.Name x px) k spos] X.env).map (·.2) = [assign (.Subscript (.Name x px) k spos) X.env] := by rfl) :
    DS X (.Assign [.Subscript (.Name x px) k spos] e pos) (fPut i g f) :=
  ps_imp (ps_asg he (pg_sub (pe_var hN hv hd hcd) hk set_list ha) hs hw h1) fun D σ H ⟨Z, B, ρ, o, ok, e, q⟩ => by
  unfold fPut at e
  obtain ⟨⟨d, ρ1⟩, e1, e2⟩ := Option.bind_eq_some_iff.mp e
  obtain ⟨⟨z, ρ2⟩, e3, e4⟩ := Option.bind_eq_some_iff.mp e2
  obtain ⟨xs0, h0, e5⟩ := Option.bind_eq_some_iff.mp e4
  obtain ⟨xs, h1, e6⟩ := Option.bind_eq_some_iff.mp e5
  split at e6
  · rename_i y h2
    obtain ⟨j, e7, e8⟩ := Option.map_eq_some_iff.mp e6
    cases e8
    have e9 : z = .int y := h2
    subst e9
    refine ⟨Z, B, ρ, d, ρ1, ok, e1, fun B1 H1 v s1 ok1 dv => ?_⟩
    obtain ⟨_, a0, vs0, _, _, g1, g2, _⟩ := own_at ok1 h0
    refine ⟨.ref a0, g1, Z, B1, ρ1, _, ρ2, ok1, e3, fun B2 H2 w s2 ok2 dw => ?_⟩
    obtain ⟨t, a, vs, k6, k7, k1, k2, k3, k4, k5, k8⟩ := own_at ok2 h1
    have e5' := own_same g1 k1
    subst e5'
    cases dw
    refine ⟨a0, vs, y, j, rfl, rfl, k2, by rw [k5.length]; exact e7, ?_⟩
    exact q B2 (s1.trans s2) σ _ (own_mut ok2 k6 k7 k1 k8 (DrAll.set (dv.mono s2) j k5))
  · cases e6
end

/-! GLoop: what is walked, for, comprehensions, defs and their calls. -/

/-! ### what is walked -/
/-- the items of a walk are these data, whatever the body does -/
def Wk (J : It) (B0 : Hp) (ds : List PyData) : Prop := ∀ (Z : Zn) (B : Hp) (σ : L2.St) (H : Hp) (ρ : En) (i : Nat), Same B0 B → EnvOk Z B σ H ρ →
  (i = ds.length → J.stop i H) ∧ ∀ d, ds[i]? = some d → J.go i H ∧ ∀ x H', J.yld i H x H' → ∃ B', Same B B' ∧ EnvOk Z B' σ H' ρ ∧ Dr B' x d
abbrev FI := En → Option (List PyData × En)
def tI (f : FI) : TI := fun σ H R => ∃ Z B ρ ds ρ', EnvOk Z B σ H ρ ∧ f ρ = some (ds, ρ') ∧ ∀ B' H' J, Same B B' → EnvOk Z B' σ H' ρ' → Wk J B' ds → R J H'
abbrev DI (X : Cx) (tg iter : Expr) (f : FI) := PI X tg iter (tI f)
theorem pi_imp {X : Cx} {tg iter : Expr} {t t' : TI} (h : PI X tg iter t) (i : ∀ σ H R, t' σ H R → t σ H R) : PI X tg iter t' := ⟨fun pins s σ H R I q => h.run pins s σ H R I (i σ H R q)⟩
/-- the items of a list or a tuple -/
def itemsD : PyData → Option (List PyData)
  | .list xs => some xs
  | .tuple xs => some xs
  | _ => none
def fItems (f : FE) : FI := fun ρ => (f ρ).bind fun p => (itemsD p.1).map fun xs => (xs, p.2)
theorem wk_list {K : PySem.W.Frag} {B : Hp} {a : Addr} {vs : List V} {ds : List PyData} (h : B a = some (.lst vs)) (hd : DrAll B vs ds) : Wk (Itl K a) B ds := fun Z B1 σ H ρ i s1 ok => by
  have hq : SqL K H a vs := SqL.of (ok.le _ _ (s1 _ _ h))
  refine ⟨fun e => ⟨vs, hq, by rw [hd.length, e]; exact Nat.le_refl _⟩, fun d e => ?_⟩
  obtain ⟨v, h1, h2⟩ := hd.get e
  refine ⟨⟨vs, v, hq, h1⟩, fun x H' ⟨e1, e2⟩ => ?_⟩
  subst e1
  have e3 := e2 vs hq
  rw [h1] at e3
  cases e3
  exact ⟨B1, Same.refl B1, ok, h2.mono s1⟩
theorem wk_tup {K : PySem.W.Frag} {B : Hp} {a : Addr} {vs : List V} {ds : List PyData} (h : B a = some (.tup vs)) (hd : DrAll B vs ds) : Wk (Itt K a) B ds := fun Z B1 σ H ρ i s1 ok => by
  have hq : SqT K H a vs := SqT.of (ok.le _ _ (s1 _ _ h))
  refine ⟨fun e => ⟨vs, hq, by rw [hd.length, e]; exact Nat.le_refl _⟩, fun d e => ?_⟩
  obtain ⟨v, h1, h2⟩ := hd.get e
  refine ⟨⟨vs, v, hq, h1⟩, fun x H' ⟨e1, e2⟩ => ?_⟩
  subst e1
  have e3 := e2 vs hq
  rw [h1] at e3
  cases e3
  exact ⟨B1, Same.refl B1, ok, h2.mono s1⟩
section
variable {X : Cx} {tg e e2 : Expr} {f g : FE} {pos : Pos}
theorem di_seq (he : DE X e f) : DI X tg e (fItems f) := ⟨fun pins s σ H R I h => by
  obtain ⟨Z, B, ρ, ds, ρ', ok, q0, q⟩ := h
  unfold fItems at q0
  obtain ⟨⟨d, ρ1⟩, e1, e2⟩ := Option.bind_eq_some_iff.mp q0
  obtain ⟨xs, e3, e4⟩ := Option.map_eq_some_iff.mp e2
  cases e4
  cases d with
  | list ys =>
    cases e3
    refine (pi_list he).run pins s σ H R I ⟨Z, B, ρ, _, _, ok, e1, fun B1 H1 v s1 ok1 dv => ?_⟩
    cases dv with
    | lst h1 h2 => exact ⟨_, rfl, ⟨_, SqL.of (ok1.le _ _ h1)⟩, q B1 H1 _ s1 ok1 (wk_list h1 h2)⟩
  | tuple ys =>
    cases e3
    refine (pi_tup he).run pins s σ H R I ⟨Z, B, ρ, _, _, ok, e1, fun B1 H1 v s1 ok1 dv => ?_⟩
    cases dv with
    | tup h1 h2 => exact ⟨_, rfl, ⟨_, SqT.of (ok1.le _ _ h1)⟩, q B1 H1 _ s1 ok1 (wk_tup h1 h2)⟩
  | _ => cases e3⟩
/-- range -/
def rangeD (lo : Int) (n : Nat) : List PyData := (List.range n).map fun (k : Nat) => PyData.int (lo + (k : Int))
theorem wk_rng {B : Hp} (lo : Int) (n : Nat) : Wk (Itr lo n) B (rangeD lo n) := fun Z B1 σ H ρ i s1 ok => by
  have hl : (rangeD lo n).length = n := by unfold rangeD; rw [List.length_map, List.length_range]
  refine ⟨fun e => by rw [hl] at e; exact Nat.le_of_eq e.symm, fun d e => ?_⟩
  have hi : i < n := by rw [← hl]; exact (List.getElem?_eq_some_iff.mp e).1
  refine ⟨hi, fun x H' ⟨e1, e2⟩ => ?_⟩
  subst e1 e2
  unfold rangeD at e
  rw [List.getElem?_map, List.getElem?_range hi] at e
  cases e
  exact ⟨B1, Same.refl B1, ok, .int _⟩
def rg1 : List PyData → Option (List PyData)
  | [.int j] => if -4611686018427387904 ≤ j ∧ j < 4611686018427387904 then some (rangeD 0 j.toNat) else none
  | _ => none
def rg2 : List PyData → Option (List PyData)
  | [.int i, .int j] => if -4611686018427387904 ≤ i ∧ i < 4611686018427387904 ∧ -4611686018427387904 ≤ j ∧ j < 4611686018427387904 then some (rangeD i (j - i).toNat) else none
  | _ => none
def fRg (h : List PyData → Option (List PyData)) (k : FA) : FI := fun ρ => (k ρ).bind fun p => (h p.1).map fun xs => (xs, p.2)
theorem p62 : (2 : Int) ^ 62 = 4611686018427387904 := by decide
theorem di_rg1 {p : Pos} {k : FA} (hm : X.mg "range" = none) (ha : DA X [e] k) (hg : Gl X "range" := by rfl) (hs : starEach [e] X.env = [(false, eval e X.env)] := by rfl) : DI X tg (.Call (.Name "range" p) [e] [] pos) (fRg rg1 k) := pi_imp (pi_range1 hg hm ha hs) fun σ H R ⟨Z, B, ρ, ds, ρ', ok, q0, q⟩ => by
  unfold fRg at q0
  obtain ⟨⟨d, ρ1⟩, e1, e2⟩ := Option.bind_eq_some_iff.mp q0
  obtain ⟨xs, e3, e4⟩ := Option.map_eq_some_iff.mp e2
  cases e4
  refine ⟨Z, B, ρ, d, _, ok, e1, fun B1 H1 vs s1 ok1 dv => ?_⟩
  replace e3 : rg1 d = some _ := e3
  unfold rg1 at e3
  split at e3
  · split at e3
    · rename_i j hj
      cases e3
      obtain ⟨v, rfl, h1⟩ := drAll_one dv
      cases h1
      exact ⟨j, rfl, by rw [p62]; exact hj.1, by rw [p62]; exact hj.2, q B1 H1 _ s1 ok1 (wk_rng 0 j.toNat)⟩
    · cases e3
  · cases e3
theorem di_rg2 {p : Pos} {k : FA} (hm : X.mg "range" = none) (ha : DA X [e, e2] k) (hg : Gl X "range" := by rfl) (hs : starEach [e, e2] X.env = [(false, eval e X.env), (false, eval e2 X.env)] := by rfl) (hs2 : starEach [e2] X.env = [(false, eval e2 X.env)] := by rfl) :
    DI X tg (.Call (.Name "range" p) [e, e2] [] pos) (fRg rg2 k) := pi_imp (pi_range2 hg hm ha hs hs2) fun σ H R ⟨Z, B, ρ, ds, ρ', ok, q0, q⟩ => by
  unfold fRg at q0
  obtain ⟨⟨d, ρ1⟩, e1, e2⟩ := Option.bind_eq_some_iff.mp q0
  obtain ⟨xs, e3, e4⟩ := Option.map_eq_some_iff.mp e2
  cases e4
  refine ⟨Z, B, ρ, d, _, ok, e1, fun B1 H1 vs s1 ok1 dv => ?_⟩
  replace e3 : rg2 d = some _ := e3
  unfold rg2 at e3
  split at e3
  · split at e3
    · rename_i i j hj
      cases e3
      obtain ⟨v, w, rfl, h1, h2⟩ := drAll_two dv
      cases h1
      cases h2
      rw [← p62] at hj
      exact ⟨i, j, rfl, hj, q B1 H1 _ s1 ok1 (wk_rng i (j - i).toNat)⟩
    · cases e3
  · cases e3
/-- zip of two lists, of two tuples -/
def zipD (xs ys : List PyData) : List PyData := List.zipWith (fun x y => PyData.tuple [x, y]) xs ys
def zp2 : List PyData → Option (List PyData)
  | [.list xs, .list ys] => some (zipD xs ys)
  | [.tuple xs, .tuple ys] => some (zipD xs ys)
  | _ => none
theorem zip_stop {α β : Type} {vs : List α} {ws : List β} {xs ys : List PyData} {i : Nat} (h1 : vs.length = xs.length) (h2 : ws.length = ys.length) (e : i = (zipD xs ys).length) : vs.length ≤ i ∨ ws.length ≤ i := by
  unfold zipD at e
  rw [List.length_zipWith] at e
  omega
theorem zip_at {xs ys : List PyData} {i : Nat} {d : PyData} (e : (zipD xs ys)[i]? = some d) : ∃ x y, xs[i]? = some x ∧ ys[i]? = some y ∧ d = .tuple [x, y] := by
  unfold zipD at e
  rw [List.getElem?_zipWith] at e
  cases h1 : xs[i]? with
  | none =>
    rw [h1] at e
    cases e
  | some x =>
    cases h2 : ys[i]? with
    | none =>
      rw [h1, h2] at e
      cases e
    | some y =>
      rw [h1, h2] at e
      cases e
      exact ⟨x, y, rfl, rfl, rfl⟩
theorem pair_new {Z : Zn} {B : Hp} {σ : L2.St} {H : Hp} {ρ : En} {T : Addr} {x y : V} {d e : PyData} (ok : EnvOk Z B σ H ρ) (hT : H T = none) (hx : Dr B x d) (hy : Dr B y e) :
    ∃ B', Same B B' ∧ EnvOk Z B' σ (upd H T (.tup [x, y])) ρ ∧ Dr B' (.ref T) (.tuple [d, e]) := by
  obtain ⟨s, ok2, d2⟩ := lay_tup ok (.cons hx (.cons hy .nil)) hT
  exact ⟨_, s, ok2, d2⟩
theorem wk_zipL {K : PySem.W.Frag} {B : Hp} {a b : Addr} {vs ws : List V} {xs ys : List PyData} (h : B a = some (.lst vs)) (hd : DrAll B vs xs) (h' : B b = some (.lst ws)) (hd' : DrAll B ws ys) : Wk (Itz K a b) B (zipD xs ys) := fun Z B1 σ H ρ i s1 ok => by
  have hq : SqL K H a vs := SqL.of (ok.le _ _ (s1 _ _ h))
  have hq' : SqL K H b ws := SqL.of (ok.le _ _ (s1 _ _ h'))
  refine ⟨fun e => ⟨vs, ws, hq, hq', zip_stop hd.length hd'.length e⟩, fun d e => ?_⟩
  obtain ⟨x, y, e1, e2, rfl⟩ := zip_at e
  obtain ⟨v, h1, h2⟩ := hd.get e1
  obtain ⟨w, h3, h4⟩ := hd'.get e2
  refine ⟨⟨vs, ws, v, w, hq, hq', h1, h3⟩, fun z H' ⟨T, v', w', e3, e4, e5, e6, e7⟩ => ?_⟩
  have e8 := e6 vs hq
  have e9 := e7 ws hq'
  rw [h1] at e8
  rw [h3] at e9
  cases e8
  cases e9
  subst e3 e5
  exact pair_new ok e4 (h2.mono s1) (h4.mono s1)
theorem wk_zipT {K : PySem.W.Frag} {B : Hp} {a b : Addr} {vs ws : List V} {xs ys : List PyData} (h : B a = some (.tup vs)) (hd : DrAll B vs xs) (h' : B b = some (.tup ws)) (hd' : DrAll B ws ys) : Wk (RZ.ItzT K a b) B (zipD xs ys) := fun Z B1 σ H ρ i s1 ok => by
  have hq : SqT K H a vs := SqT.of (ok.le _ _ (s1 _ _ h))
  have hq' : SqT K H b ws := SqT.of (ok.le _ _ (s1 _ _ h'))
  refine ⟨fun e => ⟨vs, ws, hq, hq', zip_stop hd.length hd'.length e⟩, fun d e => ?_⟩
  obtain ⟨x, y, e1, e2, rfl⟩ := zip_at e
  obtain ⟨v, h1, h2⟩ := hd.get e1
  obtain ⟨w, h3, h4⟩ := hd'.get e2
  refine ⟨⟨vs, ws, v, w, hq, hq', h1, h3⟩, fun z H' ⟨T, v', w', e3, e4, e5, e6, e7⟩ => ?_⟩
  have e8 := e6 vs hq
  have e9 := e7 ws hq'
  rw [h1] at e8
  rw [h3] at e9
  cases e8
  cases e9
  subst e3 e5
  exact pair_new ok e4 (h2.mono s1) (h4.mono s1)
theorem di_zip {p tpos : Pos} {elts : List Expr} {kk : Nat} {k : FA} (hm : X.mg "zip" = none) (ha : DA X [e, e2] k) (hg : Gl X "zip" := by rfl) (hs : starEach [e, e2] X.env = (false, eval e X.env) :: starEach [e2] X.env := by rfl) (hpl : (backTo pos (starEach [e2] X.env)).any (·.1) = false := by rfl) :
    DI X (.Tuple elts kk tpos) (.Call (.Name "zip" p) [e, e2] [] pos) (fRg zp2 k) := pi_imp (RZ.pi_zipA hg hm ha hs hpl) fun σ H R ⟨Z, B, ρ, ds, ρ', ok, q0, q⟩ => by
  unfold fRg at q0
  obtain ⟨⟨d, ρ1⟩, e1, e2⟩ := Option.bind_eq_some_iff.mp q0
  obtain ⟨xs, e3, e4⟩ := Option.map_eq_some_iff.mp e2
  cases e4
  refine ⟨Z, B, ρ, d, _, ok, e1, fun B1 H1 vs s1 ok1 dv => ?_⟩
  replace e3 : zp2 d = some _ := e3
  unfold zp2 at e3
  split at e3
  · cases e3
    obtain ⟨v, w, rfl, h1, h2⟩ := drAll_two dv
    cases h1 with
    | lst g1 g2 =>
      cases h2 with
      | lst g3 g4 => exact ⟨_, _, _, _, rfl, .inl ⟨SqL.of (ok1.le _ _ g1), SqL.of (ok1.le _ _ g3), q B1 H1 _ s1 ok1 (wk_zipL g1 g2 g3 g4)⟩⟩
  · cases e3
    obtain ⟨v, w, rfl, h1, h2⟩ := drAll_two dv
    cases h1 with
    | tup g1 g2 =>
      cases h2 with
      | tup g3 g4 => exact ⟨_, _, _, _, rfl, .inr ⟨SqT.of (ok1.le _ _ g1), SqT.of (ok1.le _ _ g3), q B1 H1 _ s1 ok1 (wk_zipT g1 g2 g3 g4)⟩⟩
  · cases e3
/-- enumerate of a list -/
def enumD : Nat → List PyData → List PyData
  | _, [] => []
  | k, x :: xs => .tuple [.int (k : Int), x] :: enumD (k + 1) xs
theorem enumD_length : ∀ (xs : List PyData) (k : Nat), (enumD k xs).length = xs.length
  | [], _ => rfl
  | x :: xs, k => by
    show (enumD (k + 1) xs).length + 1 = xs.length + 1
    rw [enumD_length xs]
theorem enumD_at : ∀ (xs : List PyData) (k i : Nat) (d : PyData), (enumD k xs)[i]? = some d → ∃ x, xs[i]? = some x ∧ d = .tuple [.int ((k + i : Nat) : Int), x]
  | [], _, _, _, h => by simp [enumD] at h
  | x :: xs, k, 0, d, h => by
    have h1 : some (PyData.tuple [.int (k : Int), x]) = some d := h
    cases h1
    exact ⟨x, rfl, rfl⟩
  | x :: xs, k, i + 1, d, h => by
    obtain ⟨y, h1, h2⟩ := enumD_at xs (k + 1) i d h
    exact ⟨y, h1, by rw [h2, show k + 1 + i = k + (i + 1) by omega]⟩
def en1 : List PyData → Option (List PyData)
  | [.list xs] => some (enumD 0 xs)
  | _ => none
theorem di_enum {p tpos : Pos} {elts : List Expr} {kk : Nat} {k : FA} (hm : X.mg "enumerate" = none) (ha : DA X [e] k) (hg : Gl X "enumerate" := by rfl) (hs : starEach [e] X.env = [(false, eval e X.env)] := by rfl) :
    DI X (.Tuple elts kk tpos) (.Call (.Name "enumerate" p) [e] [] pos) (fRg en1 k) := pi_imp (pi_enum hg hm ha hs) fun σ H R ⟨Z, B, ρ, ds, ρ', ok, q0, q⟩ => by
  unfold fRg at q0
  obtain ⟨⟨d, ρ1⟩, e1, e2⟩ := Option.bind_eq_some_iff.mp q0
  obtain ⟨xs, e3, e4⟩ := Option.map_eq_some_iff.mp e2
  cases e4
  refine ⟨Z, B, ρ, d, _, ok, e1, fun B1 H1 vs s1 ok1 dv => ?_⟩
  replace e3 : en1 d = some _ := e3
  unfold en1 at e3
  split at e3
  · cases e3
    obtain ⟨v, rfl, h1⟩ := drAll_one dv
    cases h1 with
    | lst g1 g2 =>
      refine ⟨_, _, rfl, SqL.of (ok1.le _ _ g1), q B1 H1 _ s1 ok1 fun Z B2 σ H ρ i s2 ok2 => ?_⟩
      have hq := SqL.of (K := X.K) (ok2.le _ _ (s2 _ _ g1))
      refine ⟨fun e => ⟨_, hq, by rw [enumD_length] at e; rw [g2.length, e]; exact Nat.le_refl _⟩, fun d e => ?_⟩
      obtain ⟨x, e5, rfl⟩ := enumD_at _ _ _ _ e
      obtain ⟨v, h3, h4⟩ := g2.get e5
      refine ⟨⟨_, v, hq, h3⟩, fun z H' ⟨T, v', e6, e7, e8, e9⟩ => ?_⟩
      have e10 := e9 _ hq
      rw [h3] at e10
      cases e10
      subst e6 e8
      rw [Nat.zero_add]
      exact pair_new ok2 e7 (.int _) (h4.mono s2)
  · cases e3
end

/-! ### for -/
def forL (g : FG) (body : FS) : List PyData → En → Option Out
  | [], ρ => some (.nx ρ)
  | d :: ds, ρ => (g d ρ).bind fun ρ1 => (body ρ1).bind fun o => match o with
    | .nx ρ2 => forL g body ds ρ2
    | .ct ρ2 => forL g body ds ρ2
    | .bk ρ2 => some (.nx ρ2)
    | .rt s ρ2 => some (.rt s ρ2)
def fFor (it : FI) (g : FG) (body : FS) : FS := fun ρ => (it ρ).bind fun p => forL g body p.1 p.2
theorem drop_at {α : Type} {ds : List α} {i : Nat} (h : i < ds.length) : ∃ d, ds[i]? = some d ∧ ds.drop i = d :: ds.drop (i + 1) := ⟨ds[i], List.getElem?_eq_getElem h, List.drop_eq_getElem_cons h⟩
theorem ds_for {X : Cx} {tg iter : Expr} {body : List Stmt} {it : FI} {js : List Nat} {g : FG} {F : FS} {pos : Pos} (hi : DI X tg iter it) (hg : DG X tg js g) (hb : DSs X body F) (hc : X.calm = true := by rfl) (hp : PassesOwn (model X.prog X.w) X.A X.env X.xe := by exact PassesOwn.never)
    (hs : ∀ x, foldedSetIterable iter X.env x = pure x := by intro _; rfl) : DS X (.For tg iter body [] pos) (fFor it g F) := ps_imp (ps_for hp hc hi hg hb hs) fun D σ H ⟨Z, B, ρ, o, ok, q0, q⟩ => by
  unfold fFor at q0
  obtain ⟨⟨ds, ρ1⟩, e1, e2⟩ := Option.bind_eq_some_iff.mp q0
  refine ⟨Z, B, ρ, ds, ρ1, ok, e1, fun B1 H1 J s1 ok1 wk => ?_⟩
  refine ⟨fun i m σ2 H2 => m = ds.length - i ∧ i ≤ ds.length ∧ ∃ B2 ρ2, Same B1 B2 ∧ EnvOk Z B2 σ2 H2 ρ2 ∧ forL g F (ds.drop i) ρ2 = some o, ⟨ds.length, by simp, Nat.zero_le _, B1, ρ1, Same.refl B1, ok1, by rw [List.drop_zero]; exact e2⟩, fun i m σ2 H2 hW => ?_⟩
  obtain ⟨rfl, hi, B2, ρ2, s2, ok2, hf⟩ := hW
  by_cases h : i < ds.length
  · obtain ⟨d, h1, h2⟩ := drop_at h
    rw [h2] at hf
    obtain ⟨ρ3, e3, e4⟩ := Option.bind_eq_some_iff.mp hf
    obtain ⟨o3, e5, e6⟩ := Option.bind_eq_some_iff.mp e4
    obtain ⟨go, yl⟩ := (wk Z B2 σ2 H2 ρ2 i s2 ok2).2 d h1
    refine .inr ⟨go, fun σ' H' => ∃ B4 ρ4, Same B1 B4 ∧ EnvOk Z B4 σ' H' ρ4 ∧ forL g F (ds.drop (i + 1)) ρ4 = some o, fun σ' H' hN => ⟨ds.length - (i + 1), by omega, rfl, h, hN⟩, fun x H' hy => ?_⟩
    obtain ⟨B3, s3, ok3, dx⟩ := yl x H' hy
    refine ⟨Z, B3, ρ2, d, ρ3, ok3, dx, e3, fun σ3 ok4 _ => ⟨Z, B3, ρ3, o3, ok4, e5, fun B4 s4 => ?_⟩⟩
    cases o3 with
    | nx ρ4 => exact fun σ5 H5 ok5 => ⟨B4, ρ4, s2.trans (s3.trans s4), ok5, e6⟩
    | ct ρ4 => exact fun σ5 H5 ok5 => ⟨B4, ρ4, s2.trans (s3.trans s4), ok5, e6⟩
    | bk ρ4 =>
      cases e6
      exact q B4 (s1.trans (s2.trans (s3.trans s4)))
    | rt s ρ4 =>
      cases e6
      exact q B4 (s1.trans (s2.trans (s3.trans s4)))
  · have e : i = ds.length := by omega
    rw [e, List.drop_length] at hf
    cases hf
    exact .inl ⟨(wk Z B2 σ2 H2 ρ2 i s2 ok2).1 e, q B2 (s1.trans s2) σ2 H2 ok2⟩

/-! ### comprehensions -/
def wipeE (ρ : En) : List Nat → En
  | [] => ρ
  | v :: vs => (wipeE ρ vs).set v .un
theorem wipeE_at {ρ : En} {i : Nat} {s : Sl} : ∀ {vs : List Nat}, (wipeE ρ vs)[i]? = some s → s = .un ∨ (i ∉ vs ∧ ρ[i]? = some s)
  | [], h => .inr ⟨by simp, h⟩
  | v :: vs, h => by
    rcases getElem?_set_cases h with ⟨rfl, h2, h3⟩ | ⟨h1, h2⟩
    · exact .inl h2
    · rcases wipeE_at h2 with h3 | ⟨h3, h4⟩
      · exact .inl h3
      · exact .inr ⟨fun z => (List.mem_cons.mp z).elim h1 h3, h4⟩
theorem wipeE_length (ρ : En) : ∀ vs : List Nat, (wipeE ρ vs).length = ρ.length
  | [] => rfl
  | v :: vs => by
    show ((wipeE ρ vs).set v .un).length = ρ.length
    rw [List.length_set, wipeE_length ρ vs]
theorem EnvOk.swap {Z : Zn} {B : Hp} {σ σ' : L2.St} {H : Hp} {ρ : En} {vs : List Nat} (ok : EnvOk Z B σ' H ρ) (hl : σ.length = σ'.length) (h : ∀ j, j ∉ vs → σ[j]? = σ'[j]?) : EnvOk Z B σ H (wipeE ρ vs) := by
  refine ⟨ok.le, ok.lz, ok.dj, by rw [wipeE_length, hl]; exact ok.len, fun i d e => ?_, fun i s e1 e2 => ?_, fun i xs e => ?_, fun i v e => ?_, fun i j s t a e1 e2 e3 e4 e5 e6 => ?_⟩
  · rcases wipeE_at e with z | ⟨h1, h2⟩
    · cases z
    · rw [h i h1]
      exact ok.sh i d h2
  · rcases wipeE_at e1 with z | ⟨h1, h2⟩
    · subst z
      cases e2
    · rw [h i h1]
      exact ok.ow i s h2 e2
  · rcases wipeE_at e with z | ⟨h1, h2⟩
    · cases z
    · rw [h i h1]
      exact ok.io i xs h2
  · rcases wipeE_at e with z | ⟨h1, h2⟩
    · cases z
      exact trivial
    · rw [h i h1]
      exact ok.ad i v h2
  · rcases wipeE_at e1 with z | ⟨h1, h2⟩
    · subst z
      cases e2
    · rcases wipeE_at e3 with z | ⟨h3, h4⟩
      · subst z
        cases e4
      · rw [h i h1] at e5
        rw [h j h3] at e6
        exact ok.inj i j s t a h2 e2 h4 e4 e5 e6
theorem wipe_in {σ : L2.St} {i : Nat} : ∀ {vs : List Nat}, i ∈ vs → (wipe σ vs)[i]? = if i < σ.length then some none else none
  | v :: vs, h => by
    unfold wipe
    by_cases e : v = i
    · subst e
      by_cases hl : v < σ.length
      · rw [List.getElem?_set_self (by rw [wipe_length]; exact hl), if_pos hl]
      · rw [List.getElem?_eq_none (by rw [List.length_set, wipe_length]; omega), if_neg hl]
    · rw [List.getElem?_set_ne e]
      exact wipe_in ((List.mem_cons.mp h).resolve_left (Ne.symm e))
theorem wipe_eq {σ σ' : L2.St} {vs : List Nat} (hl : σ.length = σ'.length) (h : ∀ j, j ∉ vs → σ[j]? = σ'[j]?) : wipe σ vs = wipe σ' vs := by
  apply List.ext_getElem?
  intro i
  by_cases e : i ∈ vs
  · rw [wipe_in e, wipe_in e, hl]
  · rw [wipe_out e, wipe_out e]
    exact h i e
theorem wipe_wipe (σ : L2.St) (vs : List Nat) : wipe (wipe σ vs) vs = wipe σ vs := wipe_eq (wipe_length σ vs) fun j hj => wipe_out hj
def lcL (vs : List Nat) (g : FG) (tt : FT) (te : FE) : List PyData → En → Option (List PyData × En)
  | [], ρ => some ([], ρ)
  | d :: ds, ρ => (g d ρ).bind fun ρ1 => (tt ρ1).bind fun p => if p.1 = true then (te p.2).bind fun q => (lcL vs g tt te ds (wipeE q.2 vs)).map fun r => (q.1 :: r.1, r.2) else lcL vs g tt te ds (wipeE p.2 vs)
def fLc (vs : List Nat) (it : FI) (g : FG) (tt : FT) (te : FE) : FR := fun ρ => (it ρ).bind fun p => if p.1.length ≤ 16000000 then (lcL vs g tt te p.1 (wipeE p.2 vs)).map fun r => (.ow r.1, wipeE r.2 vs) else none
def fYes : FT := fun ρ => some (true, ρ)
abbrev DTs (X : Cx) (ifs : List Expr) (f : FT) := PTs X ifs (tT f)
theorem dts_nil {X : Cx} : DTs X [] fYes := ⟨fun pins s σ H Q I h => (pts_nil (X := X)).run pins s σ H Q I (by
  obtain ⟨Z, B, ρ, b, ρ', ok, e, q⟩ := h
  cases e
  exact q B H (Same.refl B) ok)⟩
theorem dts_one {X : Cx} {c : Expr} {f : FT} (h : DT X c f) : DTs X [c] f := pts_one h
theorem sz16 {n : Nat} (h : n ≤ 16000000) : n < sizeLine := Nat.lt_of_le_of_lt h (by decide)
theorem tLc_of {it : FI} {g : FG} {tt : FT} {te : FE} {vs js : List Nat} (hj : ∀ j ∈ js, j ∈ vs) : ∀ σ H Q, tR (fLc vs it g tt te) σ H Q → tLc (tI it) (tG js g) (tT tt) (tE te) vs σ H Q := fun σ H Q ⟨Z, B, ρ, s, ρ', ok, q0, q⟩ => by
  unfold fLc at q0
  obtain ⟨⟨ds, ρ1⟩, e1, e2⟩ := Option.bind_eq_some_iff.mp q0
  split at e2
  · rename_i hlen
    obtain ⟨⟨ys, ρe⟩, e3, e4⟩ := Option.map_eq_some_iff.mp e2
    cases e4
    refine ⟨Z, B, ρ, ds, ρ1, ok, e1, fun B1 H1 J s1 ok1 wk D hD => ?_⟩
    have zD : Z.fr D = none := ok1.lz.free hD
    have bD : B1 D = none := ok1.le.free hD
    have start : EnvOk (Z.upd D (.lst [])) B1 (wipe σ vs) (upd H1 D (.lst [])) (wipeE ρ1 vs) := by
      have h1 : EnvOk Z B1 (wipe σ vs) H1 (wipeE ρ1 vs) := ok1.swap (wipe_length σ vs) fun j hj => wipe_out hj
      exact (h1.junk hD).keep upd_same bD (NotOwn.new h1 hD)
    refine ⟨fun i m H2 => m = ds.length - i ∧ i ≤ ds.length ∧ ∃ B2 ρ2 acc accV rest, Same B1 B2 ∧ EnvOk (Z.upd D (.lst accV)) B2 (wipe σ vs) H2 ρ2 ∧ DrAll B2 accV acc ∧ acc.length ≤ i ∧ lcL vs g tt te (ds.drop i) ρ2 = some (rest, ρe) ∧ acc ++ rest = ys,
      ⟨ds.length, by simp, Nat.zero_le _, B1, _, [], [], ys, Same.refl B1, start, .nil, Nat.le_refl _, by rw [List.drop_zero]; exact e3, rfl⟩, fun i m H2 hW => ?_⟩
    obtain ⟨rfl, hi, B2, ρ2, acc, accV, rest, s2, ok2, da, hl, hf, hy⟩ := hW
    have hDz : (Z.upd D (.lst accV)).fr D = some (.lst accV) := upd_same
    have sz : Same Z.fr (Z.upd D (.lst accV)).fr := same_upd_new zD
    by_cases h : i < ds.length
    · obtain ⟨d, h1, h2⟩ := drop_at h
      rw [h2] at hf
      obtain ⟨ρ3, e5, e6⟩ := Option.bind_eq_some_iff.mp hf
      obtain ⟨⟨b, ρ4⟩, e7, e8⟩ := Option.bind_eq_some_iff.mp e6
      obtain ⟨go, yl⟩ := (wk _ B2 (wipe σ vs) H2 ρ2 i s2 ok2).2 d h1
      refine .inr ⟨go, fun H' => ∃ B3 ρ3 acc accV rest, Same B1 B3 ∧ EnvOk (Z.upd D (.lst accV)) B3 (wipe σ vs) H' ρ3 ∧ DrAll B3 accV acc ∧ acc.length ≤ i + 1 ∧ lcL vs g tt te (ds.drop (i + 1)) ρ3 = some (rest, ρe) ∧ acc ++ rest = ys, fun H' hN => ⟨ds.length - (i + 1), by omega, rfl, h, hN⟩, fun x H' hy' => ?_⟩
      obtain ⟨B3, s3, ok3, dx⟩ := yl x H' hy'
      refine ⟨_, B3, ρ2, d, ρ3, ok3, dx, e5, fun σ3 ok4 hσ => ⟨?_, _, B3, ρ3, b, ρ4, ok4, e7, fun B4 H4 s4 ok5 => ?_⟩⟩
      · rw [← wipe_wipe σ vs]
        exact wipe_eq hσ.len fun j hj' => hσ.out j fun z => hj' (hj j z)
      have back : ∀ {Z' : Zn} {B' H' : Hp} {ρ' : En}, EnvOk Z' B' σ3 H' ρ' → EnvOk Z' B' (wipe σ vs) H' (wipeE ρ' vs) := fun ok' => ok'.swap hσ.len.symm fun j hj' => (hσ.out j fun z => hj' (hj j z)).symm
      cases b with
      | true =>
        rw [if_pos rfl] at e8
        refine iteT ?_
        obtain ⟨⟨y, ρ5⟩, e9, e10⟩ := Option.bind_eq_some_iff.mp e8
        obtain ⟨⟨rest', ρ6⟩, e11, e12⟩ := Option.map_eq_some_iff.mp e10
        cases e12
        refine ⟨_, B4, ρ4, y, ρ5, ok5, e9, fun B5 H5 v s5 ok6 dv => ?_⟩
        have s25 : Same B2 B5 := s3.trans (s4.trans s5)
        have hD5 : H5 D = some (.lst accV) := ok6.lz _ _ hDz
        have bD5 : B5 D = none := ok6.dj _ _ hDz
        have nD5 : NotOwn σ3 ρ5 D := fun j s' f1 f2 f3 => by
          obtain ⟨a, o, g1, g2, g3, g4, _⟩ := ok6.ow j s' f1 f2
          rw [f3] at g1
          have g5 : D = a := V.ref.inj (Option.some.inj (Option.some.inj g1))
          rw [← g5, hDz] at g4
          cases g4
        refine ⟨accV, hD5, by rw [da.length]; exact sz16 (by have : ds.length ≤ 16000000 := hlen; omega), B5, _, acc ++ [y], accV ++ [v], rest', s2.trans s25, ?_, (da.mono s25).app (.cons dv .nil), by rw [List.length_append]; show acc.length + 1 ≤ i + 1; omega, e11, by rw [List.append_assoc]; exact hy⟩
        exact back (((ok6.zle sz rfl).other bD5 zD nD5).keep upd_same bD5 nD5)
      | false =>
        rw [if_neg Bool.false_ne_true] at e8
        refine iteF ?_
        exact ⟨B4, _, acc, accV, rest, s2.trans (s3.trans s4), back ok5, da.mono (s3.trans s4), Nat.le_succ_of_le hl, e8, hy⟩
    · have e : i = ds.length := by omega
      rw [e, List.drop_length] at hf
      cases hf
      rw [List.append_nil] at hy
      subst hy
      refine .inl ⟨(wk _ B2 (wipe σ vs) H2 _ i s2 ok2).1 e, ?_⟩
      have hD2 : H2 D = some (.lst accV) := ok2.lz _ _ hDz
      have bD2 : B2 D = none := ok2.dj _ _ hDz
      have ok3 : EnvOk Z B2 σ H2 (wipeE ρe vs) := (ok2.zle sz rfl).swap (wipe_length σ vs).symm fun j hj' => (wipe_out hj').symm
      have nD : NotOwn σ (wipeE ρe vs) D := fun j s' f1 f2 f3 => by
        rcases wipeE_at f1 with z | ⟨h3, h4⟩
        · subst z
          cases f2
        · obtain ⟨a, o, g1, g2, g3, g4, _⟩ := ok2.ow j s' h4 f2
          rw [wipe_out h3, f3] at g1
          have g5 : D = a := V.ref.inj (Option.some.inj (Option.some.inj g1))
          rw [← g5, hDz] at g4
          cases g4
      exact q B2 H2 _ (s1.trans s2) ok3 (.inr ⟨D, _, rfl, hD2, bD2, zD, nD, da, rfl⟩)
  · cases e2

theorem dr_lc {X : Cx} {elt tg iter : Expr} {ifs : List Expr} {scope : Scope} {own : List (Str × Nat)} {pos : Pos} {it : FI} {g : FG} {tt : FT} {te : FE} {js vs : List Nat} (hN : X.N.Nodup) (hi : DI X tg iter it) (ok : BlkOk X.N X.env.scope scope own)
    (hg : ∀ (s : Shared) (H : Hp) (C : Addr) (cl : List (Str × Addr)) (fp : List Addr), DG (X.blk s H scope (compEnvC scope cl C X.env) fp) tg js g)
    (ht : ∀ (s : Shared) (H : Hp) (C : Addr) (cl : List (Str × Addr)) (fp : List Addr), DTs (X.blk s H scope (compEnvC scope cl C X.env) fp) ifs tt)
    (he : ∀ (s : Shared) (H : Hp) (C : Addr) (cl : List (Str × Addr)) (fp : List Addr), DE (X.blk s H scope (compEnvC scope cl C X.env) fp) elt te)
    (hc : X.calm = true := by rfl) (hv : own.map (·.2) = vs := by rfl) (hj : ∀ j ∈ js, j ∈ vs := by decide) (hs : ∀ x, foldedSetIterable iter X.env x = pure x := by intro _; rfl) :
    DR X (.ListComp elt [⟨tg, iter, ifs, 0⟩] scope pos) (fLc vs it g tt te) := by
  subst hv
  exact pe_imp (pe_lc hc hN hi ok hg ht he hs) (tLc_of hj)
theorem ds_setLc (i : Nat) {y : Str} {py : Pos} {X : Cx} {elt tg iter : Expr} {ifs : List Expr} {scope : Scope} {own : List (Str × Nat)} {pos spos : Pos} {it : FI} {g : FG} {tt : FT} {te : FE} {js vs : List Nat} (hN : X.N.Nodup)
    (hsw : swapsWith (.ListComp elt [⟨tg, iter, ifs, 0⟩] scope pos) (some (.Name y py)) spos.line X.env = pure true) (hi : DI X tg iter it) (ok : BlkOk X.N X.env.scope scope own)
    (hg : ∀ (s : Shared) (H : Hp) (C : Addr) (cl : List (Str × Addr)) (fp : List Addr), DG (X.blk s H scope (compEnvC scope cl C X.env) fp) tg js g)
    (ht : ∀ (s : Shared) (H : Hp) (C : Addr) (cl : List (Str × Addr)) (fp : List Addr), DTs (X.blk s H scope (compEnvC scope cl C X.env) fp) ifs tt)
    (he : ∀ (s : Shared) (H : Hp) (C : Addr) (cl : List (Str × Addr)) (fp : List Addr), DE (X.blk s H scope (compEnvC scope cl C X.env) fp) elt te)
    (hy : X.N[i]? = some y := by rfl) (hyl : X.env.scope.names.lookup y = some .local := by rfl)
    (hc : X.calm = true := by rfl) (hv : own.map (·.2) = vs := by rfl) (hj : ∀ j ∈ js, j ∈ vs := by decide) (hs : ∀ x, foldedSetIterable iter X.env x = pure x := by intro _; rfl) :
    DS X (.Assign [.Name y py] (.ListComp elt [⟨tg, iter, ifs, 0⟩] scope pos) spos) (fSet i (fLc vs it g tt te)) := by
  subst hv
  refine ps_imp (ps_setLc hc hN hy hyl hsw hi ok hg ht he hs) fun D σ H ⟨Z, B, ρ, o, ok, e, q⟩ => ?_
  unfold fSet at e
  obtain ⟨⟨s, ρ1⟩, e1, e2⟩ := Option.map_eq_some_iff.mp e
  cases e2
  exact tLc_of hj σ H _ ⟨Z, B, ρ, s, ρ1, ok, e1, fun B1 H1 v s1 ok1 r1 => q B1 s1 _ H1 (ok1.setR i r1)⟩

/-! ### defs -/
/-- the slots at a def's start -/
def startE (n : Nat) (ds : List PyData) : En := ds.map Sl.sh ++ List.replicate (n - ds.length) .un
def resO : Out → Option Sl
  | .rt s _ => some s
  | .nx _ => some (.sh .none)
  | _ => none
/-- what a def gives, told by its body -/
def runF (n : Nat) (F : FS) (ds : List PyData) : Option Sl := (F (startE n ds)).bind resO
/-- a def's promise -/
def spR (n : Nat) (F : List PyData → Option Sl) : Sp := fun vs H Q _ => ∃ (Z : Zn) (B : Hp) (ds : List PyData) (s : Sl), Same B H ∧ Same Z.fr H ∧ (∀ a o, Z.fr a = some o → B a = none) ∧ DrAll B vs ds ∧ ds.length = n ∧ F ds = some s ∧
  ∀ B' H' v, Same B B' → Same B' H' → Same Z.fr H' → (∀ a o, Z.fr a = some o → B' a = none) → RepR Z B' H' (fun _ => True) v s → Q v H'
theorem startE_length {n : Nat} {ds : List PyData} (h : ds.length ≤ n) : (startE n ds).length = n := by
  unfold startE
  rw [List.length_append, List.length_map, List.length_replicate]
  omega
theorem start_length {N : List Str} {vs : List V} (h : vs.length ≤ N.length) : (L2.start N vs).length = N.length := by
  unfold L2.start
  rw [List.length_append, List.length_map, List.length_replicate]
  omega
theorem startE_at {n : Nat} {ds : List PyData} {i : Nat} {s : Sl} (h : (startE n ds)[i]? = some s) : (∃ d, ds[i]? = some d ∧ s = .sh d) ∨ s = .un := by
  unfold startE at h
  by_cases hi : i < ds.length
  · rw [List.getElem?_append_left (by rw [List.length_map]; exact hi), List.getElem?_map] at h
    obtain ⟨d, h1, h2⟩ := Option.map_eq_some_iff.mp h
    exact .inl ⟨d, h1, h2.symm⟩
  · rw [List.getElem?_append_right (by rw [List.length_map]; omega)] at h
    exact .inr (List.eq_of_mem_replicate (List.mem_of_getElem? h))
theorem start_at {N : List Str} {vs : List V} {i : Nat} {v : V} (h : vs[i]? = some v) : (L2.start N vs)[i]? = some (some v) := by
  unfold L2.start
  have hi : i < vs.length := (List.getElem?_eq_some_iff.mp h).1
  rw [List.getElem?_append_left (by rw [List.length_map]; exact hi), List.getElem?_map, h]
  rfl
theorem env_start {Z : Zn} {B H : Hp} {N : List Str} {vs : List V} {ds : List PyData} (h1 : Same B H) (h2 : Same Z.fr H) (h3 : ∀ a o, Z.fr a = some o → B a = none) (h4 : DrAll B vs ds) (hn : ds.length ≤ N.length) : EnvOk Z B (L2.start N vs) H (startE N.length ds) := by
  refine ⟨h1, h2, h3, by rw [start_length (by rw [h4.length]; exact hn), startE_length hn], fun i d e => ?_, fun i s e1 e2 => ?_, fun i xs e => ?_, fun i v e => ?_, fun i j s t a e1 e2 e3 e4 e5 e6 => ?_⟩
  · rcases startE_at e with ⟨d', e1, e2⟩ | e1
    · cases e2
      obtain ⟨v, h5, h6⟩ := h4.get e1
      exact ⟨v, start_at h5, h6⟩
    · cases e1
  · rcases startE_at e1 with ⟨d', _, e3⟩ | e3
    · subst e3
      cases e2
    · subst e3
      cases e2
  · rcases startE_at e with ⟨d', _, e3⟩ | e3 <;> cases e3
  · rcases startE_at e with ⟨d', _, e3⟩ | e3 <;> (cases e3; exact trivial)
  · rcases startE_at e1 with ⟨d', _, e7⟩ | e7
    · subst e7
      cases e2
    · subst e7
      cases e2
theorem RepR.any {Z : Zn} {B H : Hp} {NO : Addr → Prop} {v : V} {s : Sl} (h : RepR Z B H NO v s) : RepR Z B H (fun _ => True) v s := by
  rcases h with h | ⟨a, o, h1, h2, h3, h4, _, h5⟩
  · exact .inl h
  · exact .inr ⟨a, o, h1, h2, h3, h4, trivial, h5⟩
section
variable {P : Program} {w : World} {K : PySem.W.Frag} {mg : Str → Option Value} {base : Heap} {x qual : Str} {params : Arguments} {body : List Stmt} {scope : Scope} {f : Addr} {fd : FuncData} {N ps : List Str} {k : Nat}
theorem fn_ok (D : FunD K x qual params body scope [] [] f fd) (S : FnScope N ps scope) {F : FS} (hl : ps.length ≤ N.length)
    (hb : ∀ (cdv : Value) (A : Around) (outer : List Env) (s : Shared) (H : Hp) (E : XK), Room k (A.deeper (envOfC qual scope s.heap.objs.size f cdv)) → DSs (cxOf CX0 P w K mg base N qual scope f cdv A outer s H E).nox body F) :
    FnOk P w K mg base CX0 (k + 1) f fd ps (spR ps.length (runF N.length F)) := by
  refine D.ok S (fun vs H Q E h => ?_) (fun cdv A outer s H vs Q E hr h => ?_)
  · obtain ⟨Z, B, ds, s, _, _, _, h4, h5, _⟩ := h
    rw [h4.length, h5]
  · obtain ⟨Z, B, ds, s1, h1, h2, h3, h4, h5, h6, q⟩ := h
    refine ⟨tS F, PSs.nox (hb cdv A outer s H E hr), ?_⟩
    unfold runF at h6
    obtain ⟨o, e1, e2⟩ := Option.bind_eq_some_iff.mp h6
    refine ⟨Z, B, _, o, env_start h1 h2 h3 h4 (by rw [h5]; exact hl), e1, fun B' s2 => ?_⟩
    cases o with
    | nx ρ' =>
      cases e2
      exact fun σ' H' ok => q B' H' _ s2 ok.le ok.lz ok.dj (.inl ⟨_, rfl, .non⟩)
    | rt s ρ' =>
      cases e2
      exact fun σ' H' v ok r => q B' H' v s2 ok.le ok.lz ok.dj r.any
    | bk ρ' => cases e2
    | ct ρ' => cases e2
end
/-- all that is not the world's -/
def restZ (H B : Hp) (b : Addr) (no : Addr → Bool) : Zn := ⟨fun a => if (B a).isSome || no a then none else H a, b, 0⟩
theorem restZ_at {H B : Hp} {b a : Addr} {no : Addr → Bool} {o : HO} (h : (restZ H B b no).fr a = some o) : B a = none ∧ no a = false ∧ H a = some o := by
  have h' : (if (B a).isSome || no a then none else H a) = some o := h
  split at h'
  · cases h'
  · rename_i hn
    rw [Bool.or_eq_true, not_or] at hn
    refine ⟨?_, by simpa using hn.2, h'⟩
    cases e : B a with
    | none => rfl
    | some u =>
      rw [e] at hn
      simp at hn
theorem restZ_of {H B : Hp} {b a : Addr} {no : Addr → Bool} {o : HO} (h1 : B a = none) (h2 : no a = false) (h3 : H a = some o) : (restZ H B b no).fr a = some o := by
  show (if (B a).isSome || no a then none else H a) = some o
  rw [h1, h2]
  exact h3
def fCallR (n : Nat) (F : List PyData → Option Sl) (k : FA) : FR := fun ρ => (k ρ).bind fun p => if p.1.length = n then (F p.1).map fun s => (s, p.2) else none
/-- behind a call that changed nothing of the frame's -/
theorem EnvOk.after {Z : Zn} {B B' : Hp} {σ : L2.St} {H H' : Hp} {ρ : En} {no : Addr → Bool} {b : Addr} (ok : EnvOk Z B σ H ρ) (s1 : Same B B') (s2 : Same B' H') (s3 : Same (restZ H B b no).fr H') (s4 : ∀ a o, (restZ H B b no).fr a = some o → B' a = none)
    (hz : ∀ a o, Z.fr a = some o → no a = false) (hn : ∀ (i : Nat) s a, ρ[i]? = some s → isOwn s = true → σ[i]? = some (some (V.ref a)) → no a = false) : EnvOk Z B' σ H' ρ := by
  refine ⟨s2, fun a o h => s3 a o (restZ_of (ok.dj a o h) (hz a o h) (ok.lz a o h)), fun a o h => s4 a o (restZ_of (ok.dj a o h) (hz a o h) (ok.lz a o h)), ok.len, fun i d e => ?_, fun i s e1 e2 => ?_, ok.io, fun i s e => (ok.ad i s e).mono s1, ok.inj⟩
  · obtain ⟨v, h1, h2⟩ := ok.sh i d e
    exact ⟨v, h1, h2.mono s1⟩
  · obtain ⟨a, o, h1, h2, h3, h4, h5⟩ := ok.ow i s e1 e2
    have h6 : (restZ H B b no).fr a = some o := restZ_of h3 (hn i s a e1 e2 h1) h2
    exact ⟨a, o, h1, s3 a o h6, s4 a o h6, h4, h5.mono s1⟩
theorem RepR.after {Z : Zn} {B B' : Hp} {σ : L2.St} {H H' : Hp} {ρ : En} {no : Addr → Bool} {b : Addr} {NO : Addr → Prop} {v : V} {s : Sl} (ok : EnvOk Z B σ H ρ) (s1 : Same B B') (hr : RepR (restZ H B b no) B' H' NO v s) (hno : ∀ a, NO a → no a = false) : RepR Z B' H' (NotOwn σ ρ) v s := by
  rcases hr with h | ⟨a, o, h1, h2, h3, h4, h5, h6, h7⟩
  · exact .inl h
  · have hH : H a = none := by
      cases e : H a with
      | none => rfl
      | some u =>
        rw [restZ_of (s1.free h3) (hno a h5) e] at h4
        cases h4
    exact .inr ⟨a, o, h1, h2, h3, ok.lz.free hH, NotOwn.new ok hH, h6, h7⟩
section
variable {X : Cx} {k n : Nat} {f : Addr} {fd : FuncData} {ps : List Str} {x : Str} {p pos : Pos} {e : Expr} {es : List Expr} {F : List PyData → Option Sl} {fa : FA}
theorem dr_call (D : FnOk X.prog X.w X.K X.mg X.base CX0 k f fd ps (spR n F)) (hr : Room k X.A) (hm : X.mg x = some (.ref f)) (hk : PySem.W.keepIn X.K (.ref f) = true) (hb : Binds X.K fd ps []) (ha : DA X (e :: es) fa)
    (hg : Gl X x := by rfl) (hdb : (x == ("__debug__" : Str)) = false := by decide) (he : starEach (e :: es) X.env = (false, eval e X.env) :: starEach es X.env := by rfl) (hpl : (backTo pos (starEach es X.env)).any (·.1) = false := by rfl) :
    DR X (.Call (.Name x p) (e :: es) [] pos) (fCallR n F fa) := pe_imp (pe_call D hr hg hm hk hb .nil pass0 ha hdb he hpl) fun σ H Q ⟨Z, B, ρ, s, ρ', ok, q0, q⟩ => by
  unfold fCallR at q0
  obtain ⟨⟨ds, ρ1⟩, e1, e2⟩ := Option.bind_eq_some_iff.mp q0
  split at e2
  · skip
    rename_i hlen
    obtain ⟨s', e3, e4⟩ := Option.map_eq_some_iff.mp e2
    cases e4
    refine ⟨Z, B, ρ, ds, _, ok, e1, fun B1 H1 vs s1 ok1 dv => ?_⟩
    show spR n F (vs ++ []) H1 Q E0
    rw [List.append_nil]
    refine ⟨restZ H1 B1 Z.bag (fun _ => false), B1, ds, s, ok1.le, fun a o h => (restZ_at h).2.2, fun a o h => (restZ_at h).1, dv, hlen, e3, fun B' H' v s2 s3 s4 s5 rv => ?_⟩
    exact q B' H' v (s1.trans s2) (ok1.after s2 s3 s4 s5 (fun _ _ _ => rfl) fun _ _ _ _ _ _ => rfl) (RepR.after ok1 s2 rv fun _ _ => rfl)
  · cases e2
end

/-! GCall: built-in functions by name, isinstance, sorted, defs that change the list handed in first. -/

/-! ### isinstance -/
def tyN : PyData → Option String
  | .none => some "NoneType"
  | .bool _ => some "bool"
  | .int _ => some "int"
  | .str _ => some "str"
  | .list _ => some "list"
  | .tuple _ => some "tuple"
  | .dict _ => none
theorem tyN_ok {K : PySem.W.Frag} {B H : Hp} {v : V} {d : PyData} {n : String} (s : Same B H) (h : Dr B v d) (e : tyN d = some n) : TyX K H v (.type n) := by
  cases h with
  | non => cases e; exact .base .non
  | bl b => cases e; exact .base (.bl b)
  | int b => cases e; exact .base (.int b)
  | str b => cases e; exact .base (.str b)
  | lst h1 h2 => cases e; exact .base (.lst (s _ _ h1))
  | tup h1 h2 => cases e; exact .base (.tup (s _ _ h1))
def kitAnyB (n : String) : List String → Option Bool
  | [] => some false
  | T :: Ts => match kitB n T with
    | some true => some true
    | some false => kitAnyB n Ts
    | none => none
theorem kitAnyB_ok {K : PySem.W.Frag} {n : String} {b : Bool} : ∀ {Ts : List String}, kitAnyB n Ts = some b → PySem.W.kitAny K (.type n) (Ts.map Value.type) = some b
  | [], h => by cases h; rfl
  | T :: Ts, h => by
    unfold kitAnyB at h
    split at h
    · rename_i e
      cases h
      exact kitAny_cons (r := true) (kit_ty e) (fun z => nomatch z) (fun _ => rfl)
    · rename_i e
      exact kitAny_cons (kit_ty e) (fun _ => kitAnyB_ok h) (fun z => nomatch z)
    · cases h
def hIsi (T : String) (d : PyData) : Option PyData := (tyN d).bind fun n => (kitB n T).map PyData.bool
def hIsiT (Ts : List String) (d : PyData) : Option PyData := (tyN d).bind fun n => (kitAnyB n Ts).map PyData.bool
/-- built-in types by their names, as arguments -/
def tTys (Ts : List String) : TA := fun _ H Q => Q (Ts.map V.ty) H
theorem clsv_tys : ∀ Ts : List String, Paired ClsV (Ts.map V.ty) (Ts.map Value.type)
  | [] => .nil
  | T :: Ts => .cons (.ty T) (clsv_tys Ts)
section
variable {X : Cx} {e : Expr} {es : List Expr} {f : FE} {pos p q : Pos}
theorem pa_imp' {t t' : TA} (h : PA X es t) (i : ∀ σ H Q, t' σ H Q → t σ H Q) : PA X es t' := pa_imp h i
theorem pa_ty {T : String} {x : Str} {Ts : List String} (hm : X.mg x = none) (hv : bootBuiltins x = some (.type T)) (hr : PA X es (tTys Ts)) (hg : Gl X x := by rfl) (hn : x ≠ "__name__" := by decide) (hd : (x == ("__debug__" : Str)) = false := by decide)
    (hs : starEach (.Name x p :: es) X.env = (false, eval (.Name x p) X.env) :: starEach es X.env := by rfl) : PA X (.Name x p :: es) (tTys (T :: Ts)) := pa_imp (pa_cons (pe_bltn (v := .ty T) hg hm hv rfl hn hd) hr hs) fun _ _ _ q => q
theorem pa_ty0 : PA X [] (tTys []) := pa_nil
theorem de_isi {T : String} {x : Str} {pf : Pos} (hi : X.mg "isinstance" = none) (ha : DE X e f) (hm : X.mg x = none) (hv : bootBuiltins x = some (.type T)) (hgi : Gl X "isinstance" := by rfl) (hg : Gl X x := by rfl) (hn : x ≠ "__name__" := by decide) (hd : (x == ("__debug__" : Str)) = false := by decide)
    (h1 : starEach [e, .Name x p] X.env = (false, eval e X.env) :: starEach [.Name x p] X.env := by rfl) (h2 : starEach [.Name x p] X.env = (false, eval (.Name x p) X.env) :: starEach [] X.env := by rfl) (hpl : (backTo pos (starEach [.Name x p] X.env)).any (·.1) = false := by rfl) :
    DE X (.Call (.Name "isinstance" pf) [e, .Name x p] [] pos) (fUn (hIsi T) f) := pe_imp (pe_callB call_isi hgi hi boot_isinstance (pa_cons ha (pa_cons (pe_bltn (v := .ty T) hg hm hv rfl hn hd) pa_nil h2) h1) (he := h1) (hpl := hpl)) fun σ H Q ⟨Z, B, ρ, d, ρ', ok, q0, q⟩ => by
  unfold fUn at q0
  obtain ⟨⟨d1, ρ1⟩, e1, e2⟩ := Option.bind_eq_some_iff.mp q0
  obtain ⟨z, e3, e4⟩ := Option.map_eq_some_iff.mp e2
  cases e4
  refine ⟨Z, B, ρ, d1, _, ok, e1, fun B1 H1 v s1 ok1 dv => ?_⟩
  obtain ⟨n, e5, e6⟩ := Option.bind_eq_some_iff.mp e3
  obtain ⟨b, e7, e8⟩ := Option.map_eq_some_iff.mp e6
  subst e8
  exact ⟨v, .ty T, .type n, .type T, b, rfl, .ty T, tyN_ok ok1.le dv e5, kit_ty e7, q B1 H1 _ s1 ok1 (.bl b)⟩
theorem de_isiT {Ts : List String} {ts : List Expr} {k : Nat} {pf : Pos} (hi : X.mg "isinstance" = none) (ha : DE X e f) (ht : PA X ts (tTys Ts)) (hl : Ts.length ≤ 20 := by decide) (hgi : Gl X "isinstance" := by rfl)
    (h1 : starEach [e, .Tuple ts k p] X.env = (false, eval e X.env) :: starEach [.Tuple ts k p] X.env := by rfl) (h2 : starEach [.Tuple ts k p] X.env = (false, eval (.Tuple ts k p) X.env) :: starEach [] X.env := by rfl) (hpl : (backTo pos (starEach [.Tuple ts k p] X.env)).any (·.1) = false := by rfl) :
    DE X (.Call (.Name "isinstance" pf) [e, .Tuple ts k p] [] pos) (fUn (hIsiT Ts) f) := pe_imp (pe_callB call_isiT hgi hi boot_isinstance (pa_cons ha (pa_cons (pe_tup ht) pa_nil h2) h1) (he := h1) (hpl := hpl)) fun σ H Q ⟨Z, B, ρ, d, ρ', ok, q0, q⟩ => by
  unfold fUn at q0
  obtain ⟨⟨d1, ρ1⟩, e1, e2⟩ := Option.bind_eq_some_iff.mp q0
  obtain ⟨z, e3, e4⟩ := Option.map_eq_some_iff.mp e2
  cases e4
  refine ⟨Z, B, ρ, d1, _, ok, e1, fun B1 H1 v s1 ok1 dv => ⟨by rw [List.length_map]; exact Nat.le_trans hl (by decide), fun t ht => ?_⟩⟩
  obtain ⟨n, e5, e6⟩ := Option.bind_eq_some_iff.mp e3
  obtain ⟨b, e7, e8⟩ := Option.map_eq_some_iff.mp e6
  subst e8
  have ok2 := ok1.junk (o := .tup (Ts.map V.ty)) ht
  exact ⟨v, t, _, .type n, _, b, rfl, upd_same, clsv_tys Ts, tyN_ok ok2.le dv e5, kitAnyB_ok e7, q B1 _ _ s1 ok2 (.bl b)⟩
end
theorem dt_isi_list : kitB "list" "list" = some true := by decide +kernel

/-! ### sorted of ints -/
def insI (x : Int) : List Int → List Int
  | [] => [x]
  | y :: r => if x ≤ y then x :: y :: r else y :: insI x r
def srtI : List Int → List Int
  | [] => []
  | x :: r => insI x (srtI r)
theorem insI_perm (x : Int) : ∀ r : List Int, (insI x r).Perm (x :: r)
  | [] => List.Perm.refl _
  | y :: r => by
    unfold insI
    split
    · exact List.Perm.refl _
    · exact ((insI_perm x r).cons y).trans (List.Perm.swap x y r)
theorem srtI_perm : ∀ r : List Int, (srtI r).Perm r
  | [] => List.Perm.refl _
  | x :: r => (insI_perm x (srtI r)).trans ((srtI_perm r).cons x)
theorem insI_sorted (x : Int) : ∀ {r : List Int}, r.Pairwise (· ≤ ·) → (insI x r).Pairwise (· ≤ ·)
  | [], _ => List.pairwise_singleton _ _
  | y :: r, h => by
    have hc := List.pairwise_cons.mp h
    unfold insI
    split
    · rename_i hxy
      refine List.pairwise_cons.mpr ⟨fun z hz => ?_, h⟩
      rcases List.mem_cons.mp hz with rfl | hz
      · exact hxy
      · exact Int.le_trans hxy (hc.1 z hz)
    · rename_i hxy
      refine List.pairwise_cons.mpr ⟨fun z hz => ?_, insI_sorted x hc.2⟩
      rcases List.mem_cons.mp ((insI_perm x r).mem_iff.mp hz) with rfl | hz
      · omega
      · exact hc.1 z hz
theorem srtI_sorted : ∀ r : List Int, (srtI r).Pairwise (· ≤ ·)
  | [] => List.Pairwise.nil
  | x :: r => insI_sorted x (srtI_sorted r)
theorem sorted_one : ∀ {l m : List Int}, l.Perm m → l.Pairwise (· ≤ ·) → m.Pairwise (· ≤ ·) → l = m
  | [], m, p, _, _ => (List.Perm.nil_eq p)
  | x :: l, [], p, _, _ => by
    have := p.length_eq
    simp at this
  | x :: l, y :: m, p, h1, h2 => by
    have c1 := List.pairwise_cons.mp h1
    have c2 := List.pairwise_cons.mp h2
    have e : x = y := by
      have hx : x ∈ y :: m := p.mem_iff.mp List.mem_cons_self
      have hy : y ∈ x :: l := p.mem_iff.mpr List.mem_cons_self
      rcases List.mem_cons.mp hx with e | hx
      · exact e
      · rcases List.mem_cons.mp hy with e | hy
        · exact e.symm
        · exact Int.le_antisymm (c1.1 y hy) (c2.1 x hx)
    subst e
    rw [sorted_one ((List.perm_cons x).mp p) c1.2 c2.2]
def hSorted : List PyData → Option Sl
  | [.list xs] => (intsO xs).map fun ns => .ow ((srtI ns).map PyData.int)
  | _ => none
theorem cd_sorted {K : PySem.W.Frag} : CallD (rSortedI K) hSorted := fun Z B σ H ρ vs ds s ok dv hz Q q => by
  unfold hSorted at hz
  split at hz
  · obtain ⟨ns, h1, h2⟩ := Option.map_eq_some_iff.mp hz
    cases h2
    have e1 := intsO_eq h1
    subst e1
    obtain ⟨v, rfl, h3⟩ := drAll_one dv
    cases h3 with
    | lst h4 h5 =>
      have e2 := h5.ints_inv
      subst e2
      refine ⟨_, ns, rfl, SqL.of (ok.le _ _ h4), fun ns' p h6 h7 hp => ?_⟩
      have e3 : ns' = srtI ns := sorted_one (h6.trans (srtI_perm ns).symm) h7 (srtI_sorted ns)
      subst e3
      obtain ⟨ok4, r4⟩ := own_lst ok (DrAll.ints (H := B) (srtI ns)) hp
      exact q B _ _ (Same.refl B) ok4 r4
  · cases hz

/-! ### built-in functions by their names -/
section
variable {X : Cx} {e : Expr} {es : List Expr} {k : FA} {pos p : Pos}
theorem dr_len (hm : X.mg "len" = none) (ha : DA X [e] k) (hg : Gl X "len" := by rfl) (he : starEach [e] X.env = (false, eval e X.env) :: starEach [] X.env := by rfl) (hpl : (backTo pos (starEach [] X.env)).any (·.1) = false := by rfl) : DR X (.Call (.Name "len" p) [e] [] pos) (fCall hLen k) := dr_callB call_len_seq cd_len hm PySem.boot_len ha hg (by decide) (by decide) he hpl
theorem dr_abs (hm : X.mg "abs" = none) (ha : DA X [e] k) (hg : Gl X "abs" := by rfl) (he : starEach [e] X.env = (false, eval e X.env) :: starEach [] X.env := by rfl) (hpl : (backTo pos (starEach [] X.env)).any (·.1) = false := by rfl) : DR X (.Call (.Name "abs" p) [e] [] pos) (fCall hAbs k) := dr_callB call_abs cd_abs hm boot_abs ha hg (by decide) (by decide) he hpl
theorem dr_all (hm : X.mg "all" = none) (ha : DA X [e] k) (hg : Gl X "all" := by rfl) (hc : X.calm = true := by rfl) (he : starEach [e] X.env = (false, eval e X.env) :: starEach [] X.env := by rfl) (hpl : (backTo pos (starEach [] X.env)).any (·.1) = false := by rfl) : DR X (.Call (.Name "all" p) [e] [] pos) (fCall hAll k) := dr_callB (cr_all hc) cd_all hm boot_all ha hg (by decide) (by decide) he hpl
theorem dr_sum (hm : X.mg "sum" = none) (ha : DA X [e] k) (hg : Gl X "sum" := by rfl) (hc : X.calm = true := by rfl) (he : starEach [e] X.env = (false, eval e X.env) :: starEach [] X.env := by rfl) (hpl : (backTo pos (starEach [] X.env)).any (·.1) = false := by rfl) : DR X (.Call (.Name "sum" p) [e] [] pos) (fCall hSum k) := dr_callB (cr_sum hc) cd_sum hm boot_sum ha hg (by decide) (by decide) he hpl
theorem dr_max (hm : X.mg "max" = none) (ha : DA X (e :: es) k) (hg : Gl X "max" := by rfl) (hc : X.calm = true := by rfl) (he : starEach (e :: es) X.env = (false, eval e X.env) :: starEach es X.env := by rfl) (hpl : (backTo pos (starEach es X.env)).any (·.1) = false := by rfl) : DR X (.Call (.Name "max" p) (e :: es) [] pos) (fCall hMax k) := dr_callB (CallR.or (call_max2 hc) (cr_max hc)) cd_max hm boot_max ha hg (by decide) (by decide) he hpl
theorem dr_min (hm : X.mg "min" = none) (ha : DA X (e :: es) k) (hg : Gl X "min" := by rfl) (hc : X.calm = true := by rfl) (he : starEach (e :: es) X.env = (false, eval e X.env) :: starEach es X.env := by rfl) (hpl : (backTo pos (starEach es X.env)).any (·.1) = false := by rfl) : DR X (.Call (.Name "min" p) (e :: es) [] pos) (fCall hMin k) := dr_callB (CallR.or (call_min2 hc) (cr_min hc)) cd_min hm boot_min ha hg (by decide) (by decide) he hpl
theorem dr_sorted (hm : X.mg "sorted" = none) (ha : DA X [e] k) (hg : Gl X "sorted" := by rfl) (he : starEach [e] X.env = (false, eval e X.env) :: starEach [] X.env := by rfl) (hpl : (backTo pos (starEach [] X.env)).any (·.1) = false := by rfl) : DR X (.Call (.Name "sorted" p) [e] [] pos) (fCall hSorted k) := dr_callB cr_sortedI cd_sorted hm boot_sorted ha hg (by decide) (by decide) he hpl
theorem dr_list (hm : X.mg "list" = none) (ha : DA X [e] k) (hg : Gl X "list" := by rfl) (he : starEach [e] X.env = (false, eval e X.env) :: starEach [] X.env := by rfl) (hpl : (backTo pos (starEach [] X.env)).any (·.1) = false := by rfl) : DR X (.Call (.Name "list" p) [e] [] pos) (fCall hList k) := dr_callTy call_list_of cd_list hm PyProof.Rows.boot_list ha hg (by decide) (by decide) he hpl
theorem dr_tuple (hm : X.mg "tuple" = none) (ha : DA X [e] k) (hg : Gl X "tuple" := by rfl) (he : starEach [e] X.env = (false, eval e X.env) :: starEach [] X.env := by rfl) (hpl : (backTo pos (starEach [] X.env)).any (·.1) = false := by rfl) : DR X (.Call (.Name "tuple" p) [e] [] pos) (fCall hTuple k) := dr_callTy call_tuple_of cd_tuple hm PyProof.Rows.boot_tuple ha hg (by decide) (by decide) he hpl
end

/-! ### defs that change the list handed in first -/
abbrev FBag := List PyData → List PyData → Option (Sl × List PyData)
def startB (n : Nat) (bs : List PyData) (ds : List PyData) : En := .io bs :: startE (n - 1) ds
def bagO (ρ : En) (s : Sl) : Option (Sl × List PyData) := match (ρ[0]? : Option Sl) with
  | some (Sl.io bs) => some (s, bs)
  | _ => none
def resB : Out → Option (Sl × List PyData)
  | .rt s ρ => bagO ρ s
  | .nx ρ => bagO ρ (.sh .none)
  | _ => none
def runB (n : Nat) (F : FS) : FBag := fun bs ds => (F (startB n bs ds)).bind resB
def spB (n : Nat) (F : FBag) : Sp := fun vs H Q _ => ∃ (Z : Zn) (B : Hp) (bs ds : List PyData) (s : Sl) (bs' : List PyData) (bvs ws : List V), vs = .ref Z.bag :: ws ∧ Same B H ∧ Same Z.fr H ∧ (∀ a o, Z.fr a = some o → B a = none) ∧
  H Z.bag = some (.lst bvs) ∧ B Z.bag = none ∧ Z.fr Z.bag = none ∧ DrAll B bvs bs ∧ DrAll B ws ds ∧ ds.length = n ∧ F bs ds = some (s, bs') ∧
  ∀ B' H' v bvs', Same B B' → Same B' H' → Same Z.fr H' → (∀ a o, Z.fr a = some o → B' a = none) → H' Z.bag = some (.lst bvs') → B' Z.bag = none → DrAll B' bvs' bs' → RepR Z B' H' (fun a => a ≠ Z.bag) v s → Q v H'
theorem env_startB {Z : Zn} {B H : Hp} {N : List Str} {ws bvs : List V} {bs ds : List PyData} (h1 : Same B H) (h2 : Same Z.fr H) (h3 : ∀ a o, Z.fr a = some o → B a = none) (g1 : H Z.bag = some (.lst bvs)) (g2 : B Z.bag = none) (g3 : Z.fr Z.bag = none) (g4 : DrAll B bvs bs) (h4 : DrAll B ws ds) (hn : ds.length + 1 ≤ N.length) :
    EnvOk Z B (L2.start N (.ref Z.bag :: ws)) H (startB N.length bs ds) := by
  have hs0 : (L2.start N (.ref Z.bag :: ws))[0]? = some (some (.ref Z.bag)) := start_at rfl
  have own0 : ∀ (i : Nat) s, (startB N.length bs ds)[i]? = some s → isOwn s = true → i = 0 ∧ s = .io bs := fun i s e1 e2 => by
    cases i with
    | zero =>
      have e3 : some (Sl.io bs) = some s := e1
      cases e3
      exact ⟨rfl, rfl⟩
    | succ i =>
      have e3 : (startE (N.length - 1) ds)[i]? = some s := e1
      rcases startE_at e3 with ⟨d', _, e4⟩ | e4
      · subst e4
        cases e2
      · subst e4
        cases e2
  refine ⟨h1, h2, h3, ?_, fun i d e => ?_, fun i s e1 e2 => ?_, fun i xs e => ?_, fun i v e => ?_, fun i j s t a e1 e2 e3 e4 e5 e6 => ?_⟩
  · rw [start_length (by rw [List.length_cons, h4.length]; exact hn)]
    show N.length = (startE (N.length - 1) ds).length + 1
    rw [startE_length (by omega)]
    omega
  · cases i with
    | zero =>
      have e3 : some (Sl.io bs) = some (Sl.sh d) := e
      cases e3
    | succ i =>
      have e3 : (startE (N.length - 1) ds)[i]? = some (.sh d) := e
      rcases startE_at e3 with ⟨d', e1, e2⟩ | e1
      · cases e2
        obtain ⟨v, h5, h6⟩ := h4.get e1
        exact ⟨v, start_at (show (V.ref Z.bag :: ws)[i + 1]? = some v from h5), h6⟩
      · cases e1
  · obtain ⟨rfl, rfl⟩ := own0 i s e1 e2
    exact ⟨Z.bag, _, hs0, g1, g2, g3, g4⟩
  · obtain ⟨rfl, _⟩ := own0 i _ e rfl
    exact hs0
  · cases i with
    | zero =>
      have e3 : some (Sl.io bs) = some v := e
      cases e3
      exact trivial
    | succ i =>
      have e3 : (startE (N.length - 1) ds)[i]? = some v := e
      rcases startE_at e3 with ⟨d', _, e4⟩ | e4 <;> (cases e4; exact trivial)
  · rw [(own0 i s e1 e2).1, (own0 j t e3 e4).1]
section
variable {P : Program} {w : World} {K : PySem.W.Frag} {mg : Str → Option Value} {base : Heap} {x qual : Str} {params : Arguments} {body : List Stmt} {scope : Scope} {f : Addr} {fd : FuncData} {N ps : List Str} {k : Nat}
theorem fnB_ok (D : FunD K x qual params body scope [] [] f fd) (S : FnScope N ps scope) {F : FS} {n : Nat} (hn : ps.length = n + 1) (hl : ps.length ≤ N.length)
    (hb : ∀ (cdv : Value) (A : Around) (outer : List Env) (s : Shared) (H : Hp) (E : XK), Room k (A.deeper (envOfC qual scope s.heap.objs.size f cdv)) → DSs (cxOf CX0 P w K mg base N qual scope f cdv A outer s H E).nox body F) :
    FnOk P w K mg base CX0 (k + 1) f fd ps (spB n (runB N.length F)) := by
  refine D.ok S (fun vs H Q E h => ?_) (fun cdv A outer s H vs Q E hr h => ?_)
  · obtain ⟨Z, B, bs, ds, s, bs', bvs, ws, rfl, _, _, _, _, _, _, _, h4, h5, _⟩ := h
    rw [List.length_cons, h4.length, h5, hn]
  · obtain ⟨Z, B, bs, ds, s1, bs', bvs, ws, rfl, h1, h2, h3, g1, g2, g3, g4, h4, h5, h6, q⟩ := h
    refine ⟨tS F, PSs.nox (hb cdv A outer s H E hr), ?_⟩
    unfold runB at h6
    obtain ⟨o, e1, e2⟩ := Option.bind_eq_some_iff.mp h6
    refine ⟨Z, B, _, o, env_startB h1 h2 h3 g1 g2 g3 g4 h4 (by rw [h5, ← hn]; exact hl), e1, fun B' s2 => ?_⟩
    have fin : ∀ {σ' : L2.St} {ρ' : En} {H' : Hp} {v : V} {s : Sl}, EnvOk Z B' σ' H' ρ' → bagO ρ' s = some (s1, bs') → RepR Z B' H' (NotOwn σ' ρ') v s → Q v H' := fun {σ' ρ' H' v s} ok e r => by
      unfold bagO at e
      split at e
      · rename_i bs2 e3
        cases e
        obtain ⟨a, o, k1, k2, k3, k4, k5⟩ := ok.ow 0 _ e3 rfl
        have k6 := ok.io 0 _ e3
        rw [k1] at k6
        have k7 : a = Z.bag := V.ref.inj (Option.some.inj (Option.some.inj k6))
        subst k7
        cases o with
        | lst bvs' =>
          refine q B' H' v bvs' s2 ok.le ok.lz ok.dj k2 k3 k5 ?_
          rcases r with r | ⟨a', o', r1, r2, r3, r4, r5, r6⟩
          · exact .inl r
          · exact .inr ⟨a', o', r1, r2, r3, r4, fun z => r5 0 _ e3 rfl (by rw [z]; exact k1), r6⟩
        | _ => exact k5.elim
      · cases e
    cases o with
    | nx ρ' => exact fun σ' H' ok => fin ok e2 (.inl ⟨_, rfl, .non⟩)
    | rt s ρ' => exact fun σ' H' v ok r => fin ok e2 r
    | bk ρ' => cases e2
    | ct ρ' => cases e2
end
def fCallB (i n : Nat) (F : FBag) (k : FA) : FR := fun ρ => (ownL ρ[i]?).bind fun _ => (k ρ).bind fun p => if p.1.length = n then (ownL p.2[i]?).bind fun bs => (F bs p.1).map fun r => (r.1, p.2.set i (newL p.2[i]? r.2)) else none
theorem set_self {α : Type} {l : List α} {i : Nat} {x : α} (h : l[i]? = some x) : l.set i x = l := by
  apply List.ext_getElem?
  intro j
  by_cases e : j = i
  · subst e
    rw [List.getElem?_set_self (List.getElem?_eq_some_iff.mp h).1, h]
  · rw [List.getElem?_set_ne (Ne.symm e)]
section
variable {X : Cx} {k n : Nat} {f : Addr} {fd : FuncData} {ps : List Str} {x y : Str} {p py pos : Pos} {es : List Expr} {F : FBag} {fa : FA}
theorem dr_callBg (i : Nat) (D : FnOk X.prog X.w X.K X.mg X.base CX0 k f fd ps (spB n F)) (hr : Room k X.A) (hm : X.mg x = some (.ref f)) (hk : PySem.W.keepIn X.K (.ref f) = true) (hb : Binds X.K fd ps []) (ha : DA X es fa)
    (hg : Gl X x := by rfl) (hN : X.N[i]? = some y := by rfl) (hv : Vis X.env.scope y := by first | exact Or.inl rfl | exact Or.inr (Or.inl rfl) | exact Or.inr (Or.inr rfl)) (hdb : (x == ("__debug__" : Str)) = false := by decide) (hd : (y == ("__debug__" : Str)) = false := by decide)
    (hcd : (y == ("__classdict__" : Str)) = false := by decide) (he : starEach (.Name y py :: es) X.env = (false, eval (.Name y py) X.env) :: starEach es X.env := by rfl) (hpl : (backTo pos (starEach es X.env)).any (·.1) = false := by rfl) :
    DR X (.Call (.Name x p) (.Name y py :: es) [] pos) (fCallB i n F fa) := pe_imp (pe_call D hr hg hm hk hb .nil pass0 (pa_cons (pe_var hN hv hd hcd) ha he) hdb he hpl) fun σ H Q ⟨Z, B, ρ, s, ρ', ok, q0, q⟩ => by
  unfold fCallB at q0
  obtain ⟨xs0, h0, q1⟩ := Option.bind_eq_some_iff.mp q0
  obtain ⟨⟨ds, ρ1⟩, e1, e2⟩ := Option.bind_eq_some_iff.mp q1
  split at e2
  · rename_i hlen
    obtain ⟨bs, h1, e3⟩ := Option.bind_eq_some_iff.mp e2
    obtain ⟨⟨s', bs'⟩, e4, e5⟩ := Option.map_eq_some_iff.mp e3
    cases e5
    obtain ⟨_, a0, vs0, _, _, g1, g2, _⟩ := own_at ok h0
    refine ⟨.ref a0, g1, Z, B, ρ, ds, ρ1, ok, e1, fun B1 H1 ws s1 ok1 dv => ?_⟩
    show spB n F (((V.ref a0) :: ws) ++ []) H1 Q E0
    rw [List.append_nil]
    obtain ⟨t, a, vs, k6, k7, k1, k2, k3, k4, k5, k8⟩ := own_at ok1 h1
    have e5 := own_same g1 k1
    subst e5
    have no : ∀ (b : Addr), b ≠ a0 → (fun c => c == a0) b = false := fun b hb => beq_eq_false_iff_ne.mpr hb
    refine ⟨restZ H1 B1 a0 (fun c => c == a0), B1, bs, ds, s', bs', vs, ws, rfl, ok1.le, fun c o h => (restZ_at h).2.2, fun c o h => (restZ_at h).1, k2, k3, ?_, k5, dv, hlen, e4, fun B' H' v bvs' s2 s3 s4 s5 j1 j2 j3 rv => ?_⟩
    · cases ez : (restZ H1 B1 a0 (fun c => c == a0)).fr a0 with
      | none => exact ez
      | some o =>
        have := (restZ_at ez).2.1
        simp at this
    have f1 : EnvOk Z B' σ H' (ρ1.set i .un) := (ok1.forget i).after s2 s3 s4 s5 (fun c o h => no c fun z => by
        rw [z, k4] at h
        cases h) fun j s' c m1 m2 m3 => no c fun z => by
        rcases getElem?_set_cases m1 with ⟨rfl, z2, z3⟩ | ⟨z1, z2⟩
        · subst z2
          cases m2
        · exact z1 (ok1.inj j i s' t a0 z2 m2 k6 k7 (by rw [← z]; exact m3) k1)
    have f2 : NotOwn σ (ρ1.set i .un) a0 := fun j s' m1 m2 m3 => by
      rcases getElem?_set_cases m1 with ⟨rfl, z2, z3⟩ | ⟨z1, z2⟩
      · subst z2
        cases m2
      · exact z1 (ok1.inj j i s' t a0 z2 m2 k6 k7 m3 k1)
    have f3 : EnvOk Z B' σ H' (ρ1.set i (newL ρ1[i]? bs')) := by
      rw [k6]
      rcases k8 with rfl | ⟨rfl, ea⟩
      · have f4 := f1.setOw i (a := a0) (s := .ow bs') j1 j2 k4 f2 j3 (fun z => nomatch z)
        rw [set_self k1, List.set_set] at f4
        exact f4
      · have f4 := f1.setOw i (a := a0) (s := .io bs') j1 j2 k4 f2 j3 (fun _ => ea)
        rw [set_self k1, List.set_set] at f4
        exact f4
    refine q B' H' v (s1.trans s2) f3 ?_
    rcases rv with r | ⟨c, o, r1, r2, r3, r4, r5, r6, r7⟩
    · exact .inl r
    · have hH : H1 c = none := by
        cases ec : H1 c with
        | none => rfl
        | some u =>
          rw [restZ_of (s2.free r3) (no c r5) ec] at r4
          cases r4
      have hno := NotOwn.new ok1 hH
      refine .inr ⟨c, o, r1, r2, r3, ok1.lz.free hH, fun j s' m1 m2 m3 => ?_, r6, r7⟩
      rcases getElem?_set_cases m1 with ⟨rfl, z2, z3⟩ | ⟨z1, z2⟩
      · exact hno j t k6 k7 m3
      · exact hno j s' z2 m2 m3
  · cases e2
end

/-! GPar: several targets at once; defs by name. -/

abbrev FAR := En → Option (List Sl × En)
def RepRs (Z : Zn) (B H : Hp) : (Addr → Prop) → List V → List Sl → Prop
  | _, [], [] => True
  | NO, v :: vs, s :: ss => RepR Z B H NO v s ∧ RepRs Z B H (fun a => NO a ∧ v ≠ .ref a) vs ss
  | _, _, _ => False
def tAR (f : FAR) : TA := fun σ H Q => ∃ Z B ρ ss ρ', EnvOk Z B σ H ρ ∧ f ρ = some (ss, ρ') ∧ ∀ B' H' vs, Same B B' → EnvOk Z B' σ H' ρ' → RepRs Z B' H' (NotOwn σ ρ') vs ss → Q vs H'
abbrev DAR (X : Cx) (es : List Expr) (f : FAR) := PA X es (tAR f)
def fNilR : FAR := fun ρ => some ([], ρ)
def fConsR (f : FR) (g : FAR) : FAR := fun ρ => (f ρ).bind fun p => (g p.2).map fun q => (p.1 :: q.1, q.2)
theorem dr_ref {B : Hp} {a : Addr} {d : PyData} (h : Dr B (.ref a) d) : ∃ o, B a = some o := by
  cases h with
  | lst h1 _ => exact ⟨_, h1⟩
  | tup h1 _ => exact ⟨_, h1⟩
theorem RepR.weak {Z Z' : Zn} {B H : Hp} {NO NO' : Addr → Prop} {v : V} {s : Sl} (h : RepR Z B H NO v s) (hz : ∀ a, Z.fr a = none → Z'.fr a = none) (hn : ∀ a, Z.fr a = none → B a = none → NO a → NO' a) : RepR Z' B H NO' v s := by
  rcases h with h | ⟨a, o, h1, h2, h3, h4, h5, h6⟩
  · exact .inl h
  · exact .inr ⟨a, o, h1, h2, h3, hz a h4, hn a h4 h3 h5, h6⟩
theorem RepRs.weak {Z Z' : Zn} {B H : Hp} : ∀ {vs : List V} {ss : List Sl} {NO NO' : Addr → Prop}, RepRs Z B H NO vs ss → (∀ a, Z.fr a = none → Z'.fr a = none) → (∀ a, Z.fr a = none → B a = none → NO a → NO' a) → RepRs Z' B H NO' vs ss
  | [], [], _, _, _, _, _ => trivial
  | v :: vs, s :: ss, _, _, ⟨h1, h2⟩, hz, hn => ⟨h1.weak hz hn, RepRs.weak h2 hz fun a h3 h5 h4 => ⟨hn a h3 h5 h4.1, h4.2⟩⟩
  | [], _ :: _, _, _, h, _, _ => h.elim
  | _ :: _, [], _, _, h, _, _ => h.elim
section
variable {X : Cx} {e : Expr} {es : List Expr} {pos : Pos}
theorem dar_nil : DAR X [] fNilR := pa_imp pa_nil fun σ H Q ⟨Z, B, ρ, ds, ρ', ok, e, q⟩ => by
  cases e
  exact q B H [] (Same.refl B) ok trivial
theorem dar_cons {f : FR} {g : FAR} (ha : DR X e f) (hr : DAR X es g) (hs : starEach (e :: es) X.env = (false, eval e X.env) :: starEach es X.env := by rfl) : DAR X (e :: es) (fConsR f g) := pa_imp (pa_cons ha hr hs) fun σ H Q ⟨Z, B, ρ, ds, ρ', ok, e, q⟩ => by
  unfold fConsR at e
  obtain ⟨⟨s, ρ1⟩, e1, e2⟩ := Option.bind_eq_some_iff.mp e
  obtain ⟨⟨ss, ρ2⟩, e3, e4⟩ := Option.map_eq_some_iff.mp e2
  cases e4
  refine ⟨Z, B, ρ, s, ρ1, ok, e1, fun B1 H1 v s1 ok1 r1 => ?_⟩
  rcases r1 with ⟨d, rfl, dv⟩ | ⟨a, o, rfl, h1, h2, h3, h4, h5, h6⟩
  · refine ⟨Z, B1, ρ1, ss, ρ2, ok1, e3, fun B2 H2 vs s2 ok2 r2 => q B2 H2 _ (s1.trans s2) ok2 ⟨.inl ⟨d, rfl, dv.mono s2⟩, r2.weak (fun _ h => h) fun a g1 g3 g2 => ⟨g2, fun z => ?_⟩⟩⟩
    subst z
    obtain ⟨o, h7⟩ := dr_ref dv
    rw [s2 _ _ h7] at g3
    cases g3
  · refine ⟨Z.upd a o, B1, ρ1, ss, ρ2, ok1.keep h1 h2 h4, e3, fun B2 H2 vs s2 ok2 r2 => ?_⟩
    have hZa : (Z.upd a o).fr a = some o := upd_same
    have sz : Same Z.fr (Z.upd a o).fr := same_upd_new h3
    have hB2 : B2 a = none := ok2.dj _ _ hZa
    have hn2 : NotOwn σ ρ2 a := fun j s' f1 f2 f3 => by
      obtain ⟨b, ob, g1, g2, g3, g4, _⟩ := ok2.ow j s' f1 f2
      rw [f3] at g1
      have g5 : a = b := V.ref.inj (Option.some.inj (Option.some.inj g1))
      rw [← g5, hZa] at g4
      cases g4
    refine q B2 H2 _ (s1.trans s2) (ok2.zle sz rfl) ⟨.inr ⟨a, o, rfl, ok2.lz _ _ hZa, hB2, h3, hn2, h5.mono s2, h6⟩, r2.weak (fun c hc => sz.free hc) fun c hc _ g => ⟨g, fun z => ?_⟩⟩
    cases z
    rw [hZa] at hc
    cases hc
def fPar2 (i j : Nat) (f : FAR) : FS := fun ρ => (f ρ).bind fun p => match p.1 with
  | [s, t] => some (.nx ((p.2.set i s).set j t))
  | _ => none
def fPar3 (i j l : Nat) (f : FAR) : FS := fun ρ => (f ρ).bind fun p => match p.1 with
  | [s, t, u] => some (.nx (((p.2.set i s).set j t).set l u))
  | _ => none
/-- behind a store the other new things are still nobody's -/
theorem NotOwn.set {σ : L2.St} {ρ : En} {a : Addr} {v : V} {s : Sl} {i : Nat} (h : NotOwn σ ρ a) (hl : σ.length = ρ.length) (hv : v ≠ .ref a ∨ isOwn s = false) : NotOwn (σ.set i (some v)) (ρ.set i s) a := fun j t e1 e2 e3 => by
  rcases getElem?_set_cases e1 with ⟨rfl, z2, z3⟩ | ⟨z1, z2⟩
  · subst z2
    rw [List.getElem?_set_self (by rw [hl]; exact z3)] at e3
    have e4 : v = .ref a := Option.some.inj (Option.some.inj e3)
    rcases hv with hv | hv
    · exact hv e4
    · rw [hv] at e2
      cases e2
  · rw [List.getElem?_set_ne (Ne.symm z1)] at e3
    exact h j t z2 e2 e3
theorem EnvOk.setRs {Z : Zn} {B : Hp} {σ : L2.St} {H : Hp} {ρ : En} {v : V} {s : Sl} {vs : List V} {ss : List Sl} (ok : EnvOk Z B σ H ρ) (i : Nat) (h : RepRs Z B H (NotOwn σ ρ) (v :: vs) (s :: ss)) :
    EnvOk Z B (σ.set i (some v)) H (ρ.set i s) ∧ RepRs Z B H (NotOwn (σ.set i (some v)) (ρ.set i s)) vs ss :=
  ⟨ok.setR i h.1, h.2.weak (fun _ h => h) fun a _ _ g => NotOwn.set g.1 ok.len (.inl g.2)⟩
theorem reps_two {Z : Zn} {B H : Hp} {NO : Addr → Prop} {vs : List V} {s t : Sl} (h : RepRs Z B H NO vs [s, t]) : ∃ v w, vs = [v, w] := by
  match vs, h with
  | [v, w], _ => exact ⟨v, w, rfl⟩
  | [], h => exact h.elim
  | [_], h => exact h.2.elim
  | _ :: _ :: _ :: _, h => exact h.2.2.elim
theorem reps_three {Z : Zn} {B H : Hp} {NO : Addr → Prop} {vs : List V} {s t u : Sl} (h : RepRs Z B H NO vs [s, t, u]) : ∃ v w z, vs = [v, w, z] := by
  match vs, h with
  | [v, w, z], _ => exact ⟨v, w, z, rfl⟩
  | [], h => exact h.elim
  | [_], h => exact h.2.elim
  | [_, _], h => exact h.2.2.elim
  | _ :: _ :: _ :: _ :: _, h => exact h.2.2.2.elim
theorem ds_par2 (i j : Nat) {x y : Str} {a b : Expr} {f : FAR} {px py pt : Pos} {kt k2 pt2} (hN : X.N.Nodup) (ha : DAR X [a, b] f) (hw : swappedStores [.Tuple [.Name x px, .Name y py] kt pt] (.Tuple [a, b] k2 pt2) X.env = pure (some [x, y]))
    (hi : X.N[i]? = some x := by rfl) (hj : X.N[j]? = some y := by rfl) (hij : i ≠ j := by decide) (hx : X.env.scope.names.lookup x = some .local := by rfl) (hy : X.env.scope.names.lookup y = some .local := by rfl) (hc : X.calm = true := by rfl)
    (hs : swapsWithSole [.Tuple [.Name x px, .Name y py] kt pt] (.Tuple [a, b] k2 pt2) pos.line X.env = pure false := by rfl) : DS X (.Assign [.Tuple [.Name x px, .Name y py] kt pt] (.Tuple [a, b] k2 pt2) pos) (fPar2 i j f) :=
  ps_imp (ps_par hc hN hi hj hij hx hy ha hw hs) fun D σ H ⟨Z, B, ρ, o, ok, e, q⟩ => by
  unfold fPar2 at e
  obtain ⟨⟨ss, ρ1⟩, e1, e2⟩ := Option.bind_eq_some_iff.mp e
  split at e2
  · rename_i s t e3
    replace e3 : ss = [s, t] := e3
    subst e3
    cases e2
    refine ⟨Z, B, ρ, _, ρ1, ok, e1, fun B1 H1 vs s1 ok1 r1 => ?_⟩
    obtain ⟨v, w, rfl⟩ := reps_two r1
    obtain ⟨ok2, r2⟩ := ok1.setRs i r1
    obtain ⟨ok3, _⟩ := ok2.setRs j r2
    exact ⟨v, w, rfl, q B1 s1 _ H1 ok3⟩
  · cases e2
theorem ds_par3 (i j l : Nat) {x y z : Str} {a b c : Expr} {f : FAR} {px py pz pt : Pos} {kt k2 pt2} (hN : X.N.Nodup) (ha : DAR X [a, b, c] f) (hw : swappedStores [.Tuple [.Name x px, .Name y py, .Name z pz] kt pt] (.Tuple [a, b, c] k2 pt2) X.env = pure (some [x, y, z]))
    (hi : X.N[i]? = some x := by rfl) (hj : X.N[j]? = some y := by rfl) (hl : X.N[l]? = some z := by rfl) (hij : i ≠ j := by decide) (hil : i ≠ l := by decide) (hjl : j ≠ l := by decide)
    (hx : X.env.scope.names.lookup x = some .local := by rfl) (hy : X.env.scope.names.lookup y = some .local := by rfl) (hz : X.env.scope.names.lookup z = some .local := by rfl) (hc : X.calm = true := by rfl)
    (hs : swapsWithSole [.Tuple [.Name x px, .Name y py, .Name z pz] kt pt] (.Tuple [a, b, c] k2 pt2) pos.line X.env = pure false := by rfl) : DS X (.Assign [.Tuple [.Name x px, .Name y py, .Name z pz] kt pt] (.Tuple [a, b, c] k2 pt2) pos) (fPar3 i j l f) :=
  ps_imp (ps_par3 hc hN hi hj hl hij hil hjl hx hy hz ha hw hs) fun D σ H ⟨Z, B, ρ, o, ok, e, q⟩ => by
  unfold fPar3 at e
  obtain ⟨⟨ss, ρ1⟩, e1, e2⟩ := Option.bind_eq_some_iff.mp e
  split at e2
  · rename_i s t u e3
    replace e3 : ss = [s, t, u] := e3
    subst e3
    cases e2
    refine ⟨Z, B, ρ, _, ρ1, ok, e1, fun B1 H1 vs s1 ok1 r1 => ?_⟩
    obtain ⟨v, w, y, rfl⟩ := reps_three r1
    obtain ⟨ok2, r2⟩ := ok1.setRs i r1
    obtain ⟨ok3, r3⟩ := ok2.setRs j r2
    obtain ⟨ok4, _⟩ := ok3.setRs l r3
    exact ⟨v, w, y, rfl, q B1 s1 _ H1 ok4⟩
  · cases e2
end

/-! ### defs by name -/
section
variable {P : Program} {w : World} {K : PySem.W.Frag} {mg : Str → Option Value} {base : Heap}
/-- the name x stands for a def that does F -/
structure CalR (P : Program) (w : World) (K : PySem.W.Frag) (mg : Str → Option Value) (base : Heap) (k : Nat) (x : Str) (n : Nat) (F : List PyData → Option Sl) : Prop where
  ex : ∃ f fd ps, FnOk P w K mg base CX0 k f fd ps (spR n F) ∧ mg x = some (.ref f) ∧ PySem.W.keepIn K (.ref f) = true ∧ Binds K fd ps []
structure CalB (P : Program) (w : World) (K : PySem.W.Frag) (mg : Str → Option Value) (base : Heap) (k : Nat) (x : Str) (n : Nat) (F : FBag) : Prop where
  ex : ∃ f fd ps, FnOk P w K mg base CX0 k f fd ps (spB n F) ∧ mg x = some (.ref f) ∧ PySem.W.keepIn K (.ref f) = true ∧ Binds K fd ps []
/-- a def as the top leaves it -/
structure DefAt (K : PySem.W.Frag) (mg : Str → Option Value) (x : Str) (st : Stmt) : Prop where
  ex : ∃ f fd, FunD K x x (defArgs st) (defBody st) (defScope st) [] [] f fd ∧ mg x = some (.ref f)
theorem calR_of {x : Str} {st : Stmt} {N ps : List Str} {k : Nat} {F : FS} (D : DefAt K mg x st) (S : FnScope N ps (defScope st)) (hl : ps.length ≤ N.length)
    (h : ∀ (kV doc pm : Value) (an : Option Addr) (cdv ct : Value) (us : List Value), us.length = ps.length → bindArgs (PySem.W.fnOf x x (defArgs st) (defBody st) (defScope st) .none kV doc pm an cdv ct) ⟨us, []⟩ = pure (ps.zip us))
    (hb : ∀ (f : Addr) (cdv : Value) (A : Around) (outer : List Env) (s : Shared) (H : Hp) (E : XK), Room k (A.deeper (envOfC x (defScope st) s.heap.objs.size f cdv)) → DSs (cxOf CX0 P w K mg base N x (defScope st) f cdv A outer s H E).nox (defBody st) F) :
    CalR P w K mg base (k + 1) x ps.length (runF N.length F) := by
  obtain ⟨f, fd, D, g⟩ := D.ex
  exact ⟨f, fd, ps, fn_ok D S hl (hb f), g, D.kp, D.bindsN h⟩
theorem calB_of {x : Str} {st : Stmt} {N ps : List Str} {k n : Nat} {F : FS} (D : DefAt K mg x st) (S : FnScope N ps (defScope st)) (hn : ps.length = n + 1) (hl : ps.length ≤ N.length)
    (h : ∀ (kV doc pm : Value) (an : Option Addr) (cdv ct : Value) (us : List Value), us.length = ps.length → bindArgs (PySem.W.fnOf x x (defArgs st) (defBody st) (defScope st) .none kV doc pm an cdv ct) ⟨us, []⟩ = pure (ps.zip us))
    (hb : ∀ (f : Addr) (cdv : Value) (A : Around) (outer : List Env) (s : Shared) (H : Hp) (E : XK), Room k (A.deeper (envOfC x (defScope st) s.heap.objs.size f cdv)) → DSs (cxOf CX0 P w K mg base N x (defScope st) f cdv A outer s H E).nox (defBody st) F) :
    CalB P w K mg base (k + 1) x n (runB N.length F) := by
  obtain ⟨f, fd, D, g⟩ := D.ex
  exact ⟨f, fd, ps, fnB_ok D S hn hl (hb f), g, D.kp, D.bindsN h⟩
end
section
variable {X : Cx} {j k n : Nat} {x y : Str} {p py pos : Pos} {e : Expr} {es : List Expr} {fa : FA}
theorem dr_fn {F : List PyData → Option Sl} (C : CalR X.prog X.w X.K X.mg X.base j x n F) (hr : Room k X.A) (ha : DA X (e :: es) fa) (hk : j ≤ k := by decide)
    (hg : Gl X x := by rfl) (hdb : (x == ("__debug__" : Str)) = false := by decide) (he : starEach (e :: es) X.env = (false, eval e X.env) :: starEach es X.env := by rfl) (hpl : (backTo pos (starEach es X.env)).any (·.1) = false := by rfl) :
    DR X (.Call (.Name x p) (e :: es) [] pos) (fCallR n F fa) := by
  obtain ⟨f, fd, ps, D, hm, hkp, hb⟩ := C.ex
  exact dr_call D (hr.mono hk) hm hkp hb ha hg hdb he hpl
theorem dr_fnB (i : Nat) {F : FBag} (C : CalB X.prog X.w X.K X.mg X.base j x n F) (hr : Room k X.A) (ha : DA X es fa) (hk : j ≤ k := by decide)
    (hg : Gl X x := by rfl) (hN : X.N[i]? = some y := by rfl) (hv : Vis X.env.scope y := by first | exact Or.inl rfl | exact Or.inr (Or.inl rfl) | exact Or.inr (Or.inr rfl)) (hdb : (x == ("__debug__" : Str)) = false := by decide) (hd : (y == ("__debug__" : Str)) = false := by decide)
    (hcd : (y == ("__classdict__" : Str)) = false := by decide) (he : starEach (.Name y py :: es) X.env = (false, eval (.Name y py) X.env) :: starEach es X.env := by rfl) (hpl : (backTo pos (starEach es X.env)).any (·.1) = false := by rfl) :
    DR X (.Call (.Name x p) (.Name y py :: es) [] pos) (fCallB i n F fa) := by
  obtain ⟨f, fd, ps, D, hm, hkp, hb⟩ := C.ex
  exact dr_callBg i D (hr.mono hk) hm hkp hb ha hg hN hv hdb hd hcd he hpl
end

/-! GMain: the bags made of the script, the law's main loop, the law's own contract; a def that calls itself. -/

/-! ### a def that calls itself: nothing is claimed at depth nought -/
theorem calR_none {P : Program} {w : World} {K : PySem.W.Frag} {mg : Str → Option Value} {base : Heap} {x : Str} {st : Stmt} {ps : List Str} {n k : Nat} (D : DefAt K mg x st)
    (h : ∀ (kV doc pm : Value) (an : Option Addr) (cdv ct : Value) (us : List Value), us.length = ps.length → bindArgs (PySem.W.fnOf x x (defArgs st) (defBody st) (defScope st) .none kV doc pm an cdv ct) ⟨us, []⟩ = pure (ps.zip us)) :
    CalR P w K mg base k x n (fun _ => none) := by
  obtain ⟨f, fd, D, g⟩ := D.ex
  have no : ∀ vs H Q E, ¬ spR n (fun _ => none) vs H Q E := fun vs H Q E ⟨_, _, _, _, _, _, _, _, _, z, _⟩ => by cases z
  exact ⟨f, fd, ps, ⟨fun vs H Q E z => (no vs H Q E z).elim, fun A outer s H args us vs Q E _ _ _ _ z => (no vs H Q E z).elim⟩, g, D.kp, D.bindsN h⟩

/-! ### slots that are known, among more -/
def Fits (ρL ρ : En) : Prop := ρL.length = ρ.length ∧ ∀ (j : Nat) s, ρL[j]? = some s → s = .un ∨ ρ[j]? = some s
theorem EnvOk.fits {Z : Zn} {B : Hp} {σ : L2.St} {H : Hp} {ρ ρL : En} (ok : EnvOk Z B σ H ρ) (h : Fits ρL ρ) : EnvOk Z B σ H ρL := by
  refine ⟨ok.le, ok.lz, ok.dj, ok.len.trans h.1.symm, fun i d e => ?_, fun i s e1 e2 => ?_, fun i xs e => ?_, fun i v e => ?_, fun i j s t a e1 e2 e3 e4 e5 e6 => ?_⟩
  · rcases h.2 i _ e with z | z
    · cases z
    · exact ok.sh i d z
  · rcases h.2 i _ e1 with z | z
    · subst z
      cases e2
    · exact ok.ow i s z e2
  · rcases h.2 i _ e with z | z
    · cases z
    · exact ok.io i xs z
  · rcases h.2 i _ e with z | z
    · cases z
      exact trivial
    · exact ok.ad i v z
  · rcases h.2 i _ e1 with z | z
    · subst z
      cases e2
    · rcases h.2 j _ e3 with y | y
      · subst y
        cases e4
      · exact ok.inj i j s t a z e2 y e4 e5 e6

/-! ### the bags -/
abbrev pBig : Int := 2305843009213693951
/-- a bag at its start, or later: three ints -/
def BagOk (n : Int) (b : List Int) : Prop := ∃ x y t, b = [x, y, t] ∧ 0 ≤ x ∧ 0 ≤ y ∧ y < pBig ∧ 0 ≤ t ∧ t ≤ n
def spBags (K : PySem.W.Frag) : Sp := fun vs H Q _ => ∃ (a : Addr) (ns : List Int) (m : Int), vs = [.ref a, .int m] ∧ SqL K H a (ns.map V.int) ∧ ns.length ≤ 63 ∧ 0 ≤ m ∧ m ≤ 63 ∧
  ∀ (H' : Hp) (L : Addr) (as : List Addr) (bs : List (List Int)), Same H H' → H L = none → H' L = some (.lst (as.map V.ref)) → as.length = bs.length → as.length ≤ 64 →
    (∀ (i : Nat) c b, as[i]? = some c → bs[i]? = some b → H c = none ∧ c ≠ L ∧ H' c = some (.lst (b.map V.int))) → as.Nodup → (∀ b ∈ bs, BagOk 100000 b) → Q (.ref L) H'
/-- an environment of ints alone, all that stands is to stay -/
theorem env_ints {σ : L2.St} {H : Hp} {ρ : En} (hl : σ.length = ρ.length) (h : ∀ (i : Nat) s, ρ[i]? = some s → s = .un ∨ ∃ n, s = .sh (.int n) ∧ σ[i]? = some (some (.int n))) : EnvOk ⟨H, 0, 0⟩ (fun _ => none) σ H ρ := by
  refine ⟨fun a o e => (nomatch e), fun a o e => e, fun a o e => rfl, hl, fun i d e => ?_, fun i s e1 e2 => ?_, fun i xs e => ?_, fun i v e => ?_, fun i j s t a e1 e2 e3 e4 e5 e6 => ?_⟩
  · rcases h i _ e with z | ⟨n, z, k⟩
    · cases z
    · cases z
      exact ⟨_, k, .int n⟩
  · rcases h i _ e1 with z | ⟨n, z, k⟩ <;> subst z <;> cases e2
  · rcases h i _ e with z | ⟨n, z, k⟩ <;> cases z
  · rcases h i _ e with z | ⟨n, z, k⟩ <;> (cases z; exact trivial)
  · rcases h i _ e1 with z | ⟨n, z, k⟩ <;> subst z <;> cases e2
theorem bags_reading {K : PySem.W.Frag} {N : List Str} {F : List PyData → Option Sl} (hN : N.length = 4) (hF : ∀ c t : Int, ∃ x y, F [.int c, .int t] = some (.ow [.int x, .int y, .int t]) ∧ 0 ≤ x ∧ 0 ≤ y ∧ y < pBig)
    {vs : List V} {H : Hp} {Q : VK} {E : XK} (h : spBags K vs H Q E) :
    tRet (tLc (iEnum K (tCons (tOp rCat (tSl (rSlL K) (tVar 0) tNoPart (tPart (tVar 1))) (tLst (tCons (tC (.int 0)) tNil))) tNil)) (gTup K 2 (gCons (gName 2) (gCons (gName 3) gNil))) tYes
      (tR (fCallR 2 F (fCons (fVar 3) (fCons (fBin hMul (fC (.int 977)) (fVar 2)) fNil)))) [2, 3]) { nx := fun _ H' => Q .non H', rt := Q } (L2.start N vs) H := by
  obtain ⟨a, ns, m, rfl, hS, hlen, hm0, hm1, q⟩ := h
  have hσ : L2.start N [V.ref a, V.int m] = [some (.ref a), some (.int m), none, none] := by
    unfold L2.start
    rw [hN]
    rfl
  rw [hσ]
  -- script[:most] + [0]
  refine ⟨.ref a, rfl, .int m, rfl, m, rfl, a, _, rfl, hS, fun p hp => ?_⟩
  have s1 : Same H (upd H p (.lst (cutV (ns.map V.int) none (some m)))) := same_upd_new hp
  refine ⟨by decide, fun p2 hp2 => ?_⟩
  have np : p ≠ p2 := fun z => by
    rw [← z, upd_same] at hp2
    cases hp2
  have s2 := s1.trans (same_upd_new (o := .lst [V.int 0]) hp2)
  obtain ⟨ms, hms, hml⟩ : ∃ ms : List Int, cutV (ns.map V.int) none (some m) ++ [V.int 0] = ms.map V.int ∧ ms.length ≤ 64 := by
    refine ⟨(ns.take (HT.sIx (ns.map V.int).length (ns.map V.int).length (some m))) ++ [0], ?_, ?_⟩
    · unfold cutV
      rw [HT.sIx_none, List.drop_zero, Nat.sub_zero, List.map_append, List.map_take]
      rfl
    · rw [List.length_append, List.length_take]
      have : ([0] : List Int).length = 1 := rfl
      omega
  refine ⟨p, p2, _, _, rfl, rfl, by rw [upd_ne np, upd_same], upd_same, ?_, fun l hl => ?_⟩
  · have e1 : (cutV (ns.map V.int) none (some m)).length + [V.int 0].length = (ms.map V.int).length := by rw [← List.length_append, hms]
    rw [e1, List.length_map]
    exact Nat.le_trans hml (by decide)
  rw [hms]
  have s3 := s2.trans (same_upd_new (o := .lst (ms.map V.int)) hl)
  refine ⟨l, ms.map V.int, rfl, SqL.of upd_same, fun D hD => ?_⟩
  generalize hG : upd (upd (upd H p (.lst (cutV (ns.map V.int) none (some m)))) p2 (.lst [V.int 0])) l (.lst (ms.map V.int)) = G0 at hD s3
  have hGl : G0 l = some (.lst (ms.map V.int)) := by rw [← hG]; exact upd_same
  have hHD : H D = none := s3.free hD
  -- the loop
  refine ⟨fun i k H2 => k = ms.length - i ∧ i ≤ ms.length ∧ Same G0 H2 ∧ ∃ (as : List Addr) (bs : List (List Int)), H2 D = some (.lst (as.map V.ref)) ∧ as.length = i ∧ bs.length = i ∧
      (∀ (j : Nat) c b, as[j]? = some c → bs[j]? = some b → H c = none ∧ c ≠ D ∧ H2 c = some (.lst (b.map V.int))) ∧ as.Nodup ∧ (∀ b ∈ bs, BagOk 100000 b),
    ⟨ms.length, by simp, Nat.zero_le _, same_upd_new hD, [], [], upd_same, rfl, rfl, fun j c b z => by simp at z, List.nodup_nil, fun b z => by cases z⟩, fun i k H2 hW => ?_⟩
  obtain ⟨rfl, hi, sm, as, bs, hD2, ha, hb, hab, hnd, hok⟩ := hW
  have hq : SqL K H2 l (ms.map V.int) := SqL.of (sm _ _ hGl)
  by_cases hlt : i < ms.length
  · have hg : (ms.map V.int)[i]? = some (V.int ms[i]) := by
      rw [List.getElem?_map, List.getElem?_eq_getElem hlt]
      rfl
    refine .inr ⟨⟨_, _, hq, hg⟩, fun H' => Same G0 H' ∧ ∃ (as : List Addr) (bs : List (List Int)), H' D = some (.lst (as.map V.ref)) ∧ as.length = i + 1 ∧ bs.length = i + 1 ∧
      (∀ (j : Nat) c b, as[j]? = some c → bs[j]? = some b → H c = none ∧ c ≠ D ∧ H' c = some (.lst (b.map V.int))) ∧ as.Nodup ∧ (∀ b ∈ bs, BagOk 100000 b), fun H' hN => ⟨ms.length - (i + 1), by omega, rfl, hlt, hN⟩, fun x H3 hy => ?_⟩
    obtain ⟨T, x', rfl, hT, rfl, hx'⟩ := hy
    have ex : x' = V.int ms[i] := Option.some.inj ((hx' _ hq).symm.trans hg)
    subst ex
    refine ⟨T, _, rfl, SqT.of upd_same, rfl, _, _, rfl, _, _, rfl, rfl, rfl, ?_⟩
    show tR (fCallR 2 F (fCons (fVar 3) (fCons (fBin hMul (fC (.int 977)) (fVar 2)) fNil))) [some (V.ref a), some (V.int m), some (V.int (i : Nat)), some (V.int ms[i])] (upd H2 T (.tup [V.int (i : Nat), V.int ms[i]])) _
    have s4 : Same H2 (upd H2 T (.tup [V.int (i : Nat), V.int ms[i]])) := same_upd_new hT
    generalize hH3 : upd H2 T (.tup [V.int (i : Nat), V.int ms[i]]) = H3 at s4
    obtain ⟨u, y, hF1, h1, h2, h3⟩ := hF ms[i] (977 * (i : Int))
    have env : EnvOk ⟨H3, 0, 0⟩ (fun _ => none) [some (V.ref a), some (V.int m), some (V.int (i : Nat)), some (V.int ms[i])] H3 [.un, .un, .sh (.int (i : Nat)), .sh (.int ms[i])] := env_ints rfl fun j s e => by
      match j, e with
      | 0, e => cases e; exact .inl rfl
      | 1, e => cases e; exact .inl rfl
      | 2, e => cases e; exact .inr ⟨_, rfl, rfl⟩
      | 3, e => cases e; exact .inr ⟨_, rfl, rfl⟩
      | j + 4, e => cases e
    refine ⟨⟨H3, 0, 0⟩, fun _ => none, _, .ow [.int u, .int y, .int (977 * (i : Int))], [.un, .un, .sh (.int (i : Nat)), .sh (.int ms[i])], env, ?_, fun B' H4 v s5 ok5 r5 => ?_⟩
    · show (fCallR 2 F (fCons (fVar 3) (fCons (fBin hMul (fC (.int 977)) (fVar 2)) fNil))) [.un, .un, .sh (.int (i : Nat)), .sh (.int ms[i])] = some (.ow [.int u, .int y, .int (977 * (i : Int))], [.un, .un, .sh (.int (i : Nat)), .sh (.int ms[i])])
      have e1 : hMul (.int 977) (.int (i : Nat)) = some (.int (977 * (i : Int))) := by
        show (if (-18446744073709551616 < (977 : Int) ∧ (977 : Int) < 18446744073709551616) ∨ (-18446744073709551616 < (i : Int) ∧ (i : Int) < 18446744073709551616) then some (PyData.int (977 * (i : Int))) else none) = _
        exact if_pos (Or.inl (by decide))
      simp only [fCallR, fCons, fVar, fBin, fC, fNil, Option.bind_some, Option.map_some, List.getElem?_cons_succ, List.getElem?_cons_zero, e1, List.length_cons, List.length_nil, hF1, if_true]
    · rcases r5 with ⟨d, z, _⟩ | ⟨c, o, rfl, g1, g2, g3, g4, g5, g6⟩
      · cases z
      · cases o with
        | lst vs =>
          have g7 : vs = [u, y, 977 * (i : Int)].map V.int := DrAll.ints_inv [u, y, 977 * (i : Int)] g5
          subst g7
          have g8 : H3 c = none := g3
          have s6 : Same H3 H4 := ok5.lz
          have hD4 : H4 D = some (.lst (as.map V.ref)) := s6 _ _ (s4 _ _ hD2)
          have hc2 : H2 c = none := s4.free g8
          have cD : c ≠ D := fun z => by
            rw [z, hD2] at hc2
            cases hc2
          have hcH : H c = none := s3.free (sm.free hc2)
          have cas : c ∉ as := fun z => by
            obtain ⟨j, hj, e⟩ := List.mem_iff_getElem.mp z
            obtain ⟨k1, k2, k3⟩ := hab j c (bs[j]'(by omega)) (by rw [List.getElem?_eq_getElem hj, e]) (List.getElem?_eq_getElem (by omega))
            rw [hc2] at k3
            cases k3
          refine ⟨as.map V.ref, hD4, by rw [List.length_map, ha]; exact Nat.lt_of_le_of_lt (Nat.le_trans (Nat.le_of_lt hlt) hml) (by decide), ?_, as ++ [c], bs ++ [[u, y, 977 * (i : Int)]], ?_, by rw [List.length_append, ha]; rfl, by rw [List.length_append, hb]; rfl, fun j d b k1 k2 => ?_, ?_, fun b hb' => ?_⟩
          · exact same_upd_right (sm.trans (s4.trans s6)) hD
          · rw [upd_same, List.map_append]
            rfl
          · by_cases hj : j < i
            · rw [List.getElem?_append_left (by omega)] at k1 k2
              obtain ⟨k3, k4, k5⟩ := hab j d b k1 k2
              exact ⟨k3, k4, by rw [upd_ne k4]; exact s6 _ _ (s4 _ _ k5)⟩
            · rw [List.getElem?_append_right (by omega), ha] at k1
              rw [List.getElem?_append_right (by omega), hb] at k2
              have ej : j - i = 0 := by
                cases ez : j - i with
                | zero => rfl
                | succ z =>
                  rw [ez] at k1
                  simp at k1
              rw [ej] at k1 k2
              cases k1
              cases k2
              exact ⟨hcH, cD, by rw [upd_ne cD]; exact g1⟩
          · exact List.nodup_append.mpr ⟨hnd, List.nodup_cons.mpr ⟨by simp, List.nodup_nil⟩, fun x hx y hy e => by
              rw [List.mem_singleton] at hy
              rw [e, hy] at hx
              exact cas hx⟩
          · rcases List.mem_append.mp hb' with z | z
            · exact hok b z
            · rw [List.mem_singleton] at z
              subst z
              exact ⟨u, y, _, rfl, h1, h2, h3, by omega, by omega⟩
        | _ => exact g5.elim
  · have e : i = ms.length := by omega
    refine .inl ⟨⟨_, hq, by rw [List.length_map]; omega⟩, ?_⟩
    exact q H2 D as bs (s3.trans sm) hHD hD2 (by omega) (by omega) hab hnd hok

/-! ### the main loop -/
def tMain (K : PySem.W.Frag) (m : Int) (ib : Nat) (F : FS) : TS := fun D σ H => ∃ (Z : Zn) (B : Hp) (ρ ρL : En) (a : Addr) (ns : List Int), EnvOk Z B σ H ρ ∧ Fits ρL ρ ∧ (∀ (j : Nat) s, ρL[j]? = some s → isOwn s = false) ∧ ρ[0]? = some (.ad (.ref a)) ∧
  (∀ H', Same Z.fr H' → SqL K H' a (ns.map V.int)) ∧ ns.length ≤ 63 ∧ 0 ≤ m ∧ m ≤ 63 ∧ (∀ b, BagOk 100000 b → ∃ ρ', F (ρL.set ib (.ow (b.map PyData.int))) = some (.nx ρ') ∧ Fits ρL ρ') ∧ ρL[ib]? = some .un ∧
  ∀ B' σ' H', Same B B' → EnvOk Z B' σ' H' ρL → D.nx σ' H'
structure CalBags (P : Program) (w : World) (K : PySem.W.Frag) (mg : Str → Option Value) (base : Heap) (k : Nat) : Prop where
  ex : ∃ f fd ps, FnOk P w K mg base CX0 k f fd ps (spBags K) ∧ mg "_law_bags" = some (.ref f) ∧ PySem.W.keepIn K (.ref f) = true ∧ Binds K fd ps []
theorem list_set_un {ρL : En} {ib : Nat} (h : ρL[ib]? = some .un) {s : Sl} : (ρL.set ib s).set ib .un = ρL := by
  rw [List.set_set]
  exact set_self h
theorem ps_main {X : Cx} {j k : Nat} {m : Int} (ib : Nat) {body : List Stmt} {F : FS} {p1 p2 p3 p4 p5 pos : Pos} {kk} (C : CalBags X.prog X.w X.K X.mg X.base j) (hr : Room k X.A) (hb : DSs X body F) (hN : X.N.Nodup) (hk : j ≤ k := by decide) (hi : X.N[ib]? = some ("bag" : Str) := by rfl) (h0 : X.N[0]? = some ("script" : Str) := by rfl)
    (hx : Loc X.env.scope "bag" := by first | exact Or.inl rfl | exact Or.inr rfl) (hv : Vis X.env.scope "script" := by first | exact Or.inl rfl | exact Or.inr (Or.inl rfl)) (hg : Gl X "_law_bags" := by rfl)
    (hf : X.fn "bag" = true ∨ X.env.scope.names.lookup ("bag" : Str) = some .local := by first | exact .inl rfl | exact .inr rfl) (hc : X.calm = true := by rfl) (hp : PassesOwn (model X.prog X.w) X.A X.env X.xe := by exact PassesOwn.never)
    (e1 : starEach [.Name "script" p3, .Constant (.int m) kk p4] X.env = (false, eval (.Name "script" p3) X.env) :: starEach [.Constant (.int m) kk p4] X.env := by rfl)
    (e2 : starEach [.Constant (.int m) kk p4] X.env = (false, eval (.Constant (.int m) kk p4) X.env) :: starEach [] X.env := by rfl) (e3 : (backTo p5 (starEach [.Constant (.int m) kk p4] X.env)).any (·.1) = false := by rfl)
    (hs : ∀ x, foldedSetIterable (.Call (.Name "_law_bags" p2) [.Name "script" p3, .Constant (.int m) kk p4] [] p5) X.env x = pure x := by intro _; rfl) :
    PS X (.For (.Name "bag" p1) (.Call (.Name "_law_bags" p2) [.Name "script" p3, .Constant (.int m) kk p4] [] p5) body [] pos) (tMain X.K m ib F) := by
  obtain ⟨f, fd, ps, D0, hm, hkp, hbd⟩ := C.ex
  refine ps_imp (ps_for hp hc (pi_list (pe_call D0 (hr.mono hk) hg hm hkp hbd .nil pass0 (pa_cons (pe_var h0 hv (by decide) (by decide)) (pa_cons pe_int pa_nil e2) e1) (by decide) e1 e3)) (pg_name hN hi hx hf) hb hs) fun D σ H q0 => ?_
  obtain ⟨Z, B, ρ, ρL, a, ns, ok, hfit, hno, h1, hS, hlen, hm0, hm1, hF, hib, q⟩ := q0
  have okL : EnvOk Z B σ H ρL := ok.fits hfit
  refine ⟨.ref a, ok.ad 0 _ h1, a, ns, m, rfl, hS H ok.lz, hlen, hm0, hm1, fun H' L as bs sm hL hL' hab hle hA hnd hbs => ?_⟩
  refine ⟨L, rfl, ⟨_, SqL.of hL'⟩, ?_⟩
  let Zk : Nat → Zn := fun i => ⟨fun c => if c = L ∨ c ∈ as.drop i then H' c else Z.fr c, Z.bag, Z.pin⟩
  have fresh : ∀ c ∈ as, H c = none ∧ c ≠ L := fun c hc => by
    obtain ⟨j, hj, e⟩ := List.mem_iff_getElem.mp hc
    obtain ⟨k1, k2, _⟩ := hA j c (bs[j]'(by omega)) (by rw [List.getElem?_eq_getElem hj, e]) (List.getElem?_eq_getElem (by omega))
    exact ⟨k1, k2⟩
  have zL : Z.fr L = none := ok.lz.free hL
  have start : EnvOk (Zk 0) B σ H' ρL := by
    refine ⟨okL.le.trans sm, fun c o e => ?_, fun c o e => ?_, okL.len, okL.sh, fun i s z1 z2 => ?_, okL.io, okL.ad, okL.inj⟩
    · have e' : (if c = L ∨ c ∈ as.drop 0 then H' c else Z.fr c) = some o := e
      split at e'
      · exact e'
      · exact sm _ _ (okL.lz _ _ e')
    · have e' : (if c = L ∨ c ∈ as.drop 0 then H' c else Z.fr c) = some o := e
      split at e'
      · rename_i hc
        rcases hc with rfl | hc
        · exact okL.le.free hL
        · exact okL.le.free (fresh c hc).1
      · exact okL.dj _ _ e'
    · rw [hno i s z1] at z2
      cases z2
  refine ⟨fun i n σ2 H2 => n = as.length - i ∧ i ≤ as.length ∧ ∃ B2, Same B B2 ∧ EnvOk (Zk i) B2 σ2 H2 ρL, ⟨as.length, by simp, Nat.zero_le _, B, Same.refl B, start⟩, fun i n σ2 H2 hW => ?_⟩
  obtain ⟨rfl, hi', B2, s2, ok2⟩ := hW
  have hL2 : H2 L = some (.lst (as.map V.ref)) := ok2.lz L _ (by show (if L = L ∨ L ∈ as.drop i then H' L else Z.fr L) = _; rw [if_pos (.inl rfl)]; exact hL')
  by_cases hlt : i < as.length
  · have hc : as[i]? = some as[i] := List.getElem?_eq_getElem hlt
    have hb' : bs[i]? = some (bs[i]'(by omega)) := List.getElem?_eq_getElem (by omega)
    obtain ⟨k1, k2, k3⟩ := hA i _ _ hc hb'
    have hg' : (as.map V.ref)[i]? = some (V.ref as[i]) := by rw [List.getElem?_map, hc]; rfl
    have hdrop : as.drop i = as[i] :: as.drop (i + 1) := List.drop_eq_getElem_cons hlt
    have notin : as[i] ∉ as.drop (i + 1) := by
      have h2 : (as.drop i).Nodup := hnd.sublist (List.drop_sublist i as)
      rw [hdrop] at h2
      exact (List.nodup_cons.mp h2).1
    refine .inr ⟨⟨_, _, SqL.of hL2, hg'⟩, fun σ' H3 => ∃ B3, Same B B3 ∧ EnvOk (Zk (i + 1)) B3 σ' H3 ρL, fun σ' H3 hN => ⟨as.length - (i + 1), by omega, rfl, hlt, hN⟩, fun x H3 hy => ?_⟩
    obtain ⟨rfl, hx'⟩ := hy
    have ex : x = V.ref as[i] := Option.some.inj ((hx' _ (SqL.of hL2)).symm.trans hg')
    subst ex
    have hZi : (Zk i).fr as[i] = some (.lst ((bs[i]'(by omega)).map V.int)) := by
      show (if as[i] = L ∨ as[i] ∈ as.drop i then H' as[i] else Z.fr as[i]) = _
      rw [if_pos (.inr (by rw [hdrop]; exact List.mem_cons_self))]
      exact k3
    have hZi1 : (Zk (i + 1)).fr as[i] = none := by
      show (if as[i] = L ∨ as[i] ∈ as.drop (i + 1) then H' as[i] else Z.fr as[i]) = none
      rw [if_neg (fun z => z.elim k2 notin)]
      exact ok.lz.free k1
    have szz : Same (Zk (i + 1)).fr (Zk i).fr := fun c o e => by
      have e' : (if c = L ∨ c ∈ as.drop (i + 1) then H' c else Z.fr c) = some o := e
      show (if c = L ∨ c ∈ as.drop i then H' c else Z.fr c) = some o
      split at e'
      · rename_i hc'
        rw [if_pos (hc'.imp id fun z => by rw [hdrop]; exact List.mem_cons_of_mem _ z)]
        exact e'
      · by_cases hc2 : c = L ∨ c ∈ as.drop i
        · rw [if_pos hc2]
          exact sm _ _ (ok.lz _ _ e')
        · rw [if_neg hc2]
          exact e'
    have ok3 : EnvOk (Zk (i + 1)) B2 (σ2.set ib (some (.ref as[i]))) H3 (ρL.set ib (.ow ((bs[i]'(by omega)).map PyData.int))) :=
      (ok2.zle szz rfl).setOw ib (ok2.lz _ _ hZi) (ok2.dj _ _ hZi) hZi1 (fun j s z1 z2 => by
        rw [hno j s z1] at z2
        cases z2) (DrAll.ints _) (fun z => nomatch z)
    obtain ⟨ρ', hF1, hF2⟩ := hF _ (hbs _ (List.mem_of_getElem? hb'))
    exact ⟨Zk (i + 1), B2, _, _, ok3, hF1, fun B4 s4 σ' H4 ok4 => ⟨B4, s2.trans s4, ok4.fits hF2⟩⟩
  · have e : i = as.length := by omega
    refine .inl ⟨⟨_, SqL.of hL2, by rw [List.length_map]; omega⟩, ?_⟩
    refine q B2 σ2 H2 s2 (ok2.zle (fun c o z => ?_) rfl)
    show (if c = L ∨ c ∈ as.drop i then H' c else Z.fr c) = some o
    by_cases hc2 : c = L ∨ c ∈ as.drop i
    · rw [if_pos hc2]
      exact sm _ _ (ok.lz _ _ z)
    · rw [if_neg hc2]
      exact z

/-! ### the law -/
/-- the law's promise: True -/
def spLaw (K : PySem.W.Frag) : Sp := fun vs H Q _ => ∃ (a : Addr) (ns : List Int), vs = [.ref a] ∧ SqL K H a (ns.map V.int) ∧ ns.length ≤ 63 ∧ ∀ H', Q (.bl true) H'
theorem env_law {H : Hp} {N : List Str} {a : Addr} (hN : 0 < N.length) : EnvOk ⟨H, 0, 0⟩ (fun _ => none) (L2.start N [.ref a]) H (.ad (.ref a) :: List.replicate (N.length - 1) .un) := by
  have hat : ∀ (i : Nat) s, (Sl.ad (.ref a) :: List.replicate (N.length - 1) Sl.un)[i]? = some s → (i = 0 ∧ s = .ad (.ref a)) ∨ s = .un := fun i s e => by
    cases i with
    | zero =>
      cases e
      exact .inl ⟨rfl, rfl⟩
    | succ i => exact .inr (List.eq_of_mem_replicate (List.mem_of_getElem? (show (List.replicate (N.length - 1) Sl.un)[i]? = some s from e)))
  refine ⟨fun c o e => (nomatch e), fun c o e => e, fun c o e => rfl, ?_, fun i d e => ?_, fun i s e1 e2 => ?_, fun i xs e => ?_, fun i v e => ?_, fun i j s t b e1 e2 e3 e4 e5 e6 => ?_⟩
  · rw [start_length (by exact hN), List.length_cons, List.length_replicate]
    omega
  · rcases hat i _ e with ⟨_, z⟩ | z <;> cases z
  · rcases hat i _ e1 with ⟨_, z⟩ | z <;> subst z <;> cases e2
  · rcases hat i _ e with ⟨_, z⟩ | z <;> cases z
  · rcases hat i _ e with ⟨h, z⟩ | z
    · cases z
      rw [h]
      exact start_at rfl
    · cases z
      exact trivial
  · rcases hat i _ e1 with ⟨_, z⟩ | z <;> subst z <;> cases e2

/-! GSimp: the pure functions by simp. -/
@[simp] theorem fFz_eq (f : FR) (ρ : En) : fFz f ρ = (f ρ).bind fun p => (fzS p.1).map fun d => (d, p.2) := rfl
@[simp] theorem fSh_eq (f : FE) (ρ : En) : fSh f ρ = (f ρ).map fun p => (.sh p.1, p.2) := rfl
@[simp] theorem fzS_sh (d : PyData) : fzS (.sh d) = some d := rfl
@[simp] theorem fzS_ow (d : List PyData) : fzS (.ow d) = some (.list d) := rfl
@[simp] theorem fC_eq (d : PyData) (ρ : En) : fC d ρ = some (d, ρ) := rfl
@[simp] theorem fNil_eq (ρ : En) : fNil ρ = some ([], ρ) := rfl
@[simp] theorem fCons_eq (f : FE) (g : FA) (ρ : En) : fCons f g ρ = (f ρ).bind fun p => (g p.2).map fun q => (p.1 :: q.1, q.2) := rfl
@[simp] theorem fBin_eq (h : PyData → PyData → Option PyData) (f g : FE) (ρ : En) : fBin h f g ρ = (f ρ).bind fun p => (g p.2).bind fun q => (h p.1 q.1).map fun z => (z, q.2) := rfl
@[simp] theorem fUn_eq (h : PyData → Option PyData) (f : FE) (ρ : En) : fUn h f ρ = (f ρ).bind fun p => (h p.1).map fun z => (z, p.2) := rfl
@[simp] theorem fB_eq (f : FE) (ρ : En) : fB f ρ = (f ρ).bind fun p => (blD p.1).map fun b => (b, p.2) := rfl
@[simp] theorem blD_bool (b : Bool) : blD (.bool b) = some b := rfl
theorem fChain_run {h1 h2 : PyData → PyData → Option PyData} {f g k : FE} {ρ ρ1 ρ2 ρ3 : En} {x y z : PyData} {b c : Bool} (e1 : f ρ = some (x, ρ1)) (e2 : g ρ1 = some (y, ρ2)) (e3 : h1 x y = some (.bool b)) (e4 : k ρ2 = some (z, ρ2)) (e5 : h2 y z = some (.bool c)) :
    fChain h1 h2 f g k ρ = some (.bool (b && c), ρ2) := by
  unfold fChain
  rw [e1, Option.bind_some]
  show (g ρ1).bind _ = _
  rw [e2, Option.bind_some]
  show (h1 x y).bind _ = _
  rw [e3, Option.bind_some]
  cases b with
  | true =>
    show (k ρ2).bind _ = _
    rw [e4, Option.bind_some]
    show (h2 y z).map _ = _
    rw [e5]
    rfl
  | false => rfl
@[simp] theorem fChain_eq (h1 h2 : PyData → PyData → Option PyData) (f g k : FE) (ρ : En) : fChain h1 h2 f g k ρ = (f ρ).bind fun p => (g p.2).bind fun q => (h1 p.1 q.1).bind fun z => match z with
  | .bool true => (k q.2).bind fun r => (h2 q.1 r.1).map fun w => (w, r.2)
  | .bool false => some (.bool false, q.2)
  | _ => none := rfl
@[simp] theorem fAndT_eq (f g : FT) (ρ : En) : fAndT f g ρ = (f ρ).bind fun p => if p.1 = true then g p.2 else some (false, p.2) := rfl
@[simp] theorem fOrT_eq (f g : FT) (ρ : En) : fOrT f g ρ = (f ρ).bind fun p => if p.1 = true then some (true, p.2) else g p.2 := rfl
@[simp] theorem fNotT_eq (f : FT) (ρ : En) : fNotT f ρ = (f ρ).map fun p => (!p.1, p.2) := rfl
@[simp] theorem fAndV_eq (f g : FE) (ρ : En) : fAndV f g ρ = (f ρ).bind fun p => match p.1 with
  | .bool true => g p.2
  | .bool false => some (.bool false, p.2)
  | _ => none := rfl
@[simp] theorem fOrV_eq (f g : FE) (ρ : En) : fOrV f g ρ = (f ρ).bind fun p => match p.1 with
  | .bool false => g p.2
  | .bool true => some (.bool true, p.2)
  | _ => none := rfl
@[simp] theorem fIfE_eq (c : FT) (f g : FE) (ρ : En) : fIfE c f g ρ = (c ρ).bind fun p => if p.1 = true then f p.2 else g p.2 := rfl
@[simp] theorem fTup_eq (f : FA) (ρ : En) : fTup f ρ = (f ρ).bind fun p => if p.1.length ≤ 16777216 then some (.tuple p.1, p.2) else none := rfl
@[simp] theorem fLst_eq (f : FA) (ρ : En) : fLst f ρ = (f ρ).bind fun p => if p.1.length ≤ 16777216 then some (.ow p.1, p.2) else none := rfl
@[simp] theorem fVar_eq (i : Nat) (ρ : En) : fVar i ρ = match ρ[i]? with
  | some (.sh d) => some (d, ρ)
  | some (.ow xs) => some (.list xs, ρ.set i (.sh (.list xs)))
  | _ => none := rfl
@[simp] theorem fIxO_eq (i : Nat) (g : FE) (ρ : En) : fIxO i g ρ = (g ρ).bind fun p => (ownL ρ[i]?).bind fun _ => (ownL p.2[i]?).bind fun xs => match p.1 with
  | .int k => (atI xs k).map fun d => (d, p.2)
  | _ => none := rfl
@[simp] theorem ownL_ow (xs : List PyData) : ownL (some (.ow xs)) = some xs := rfl
@[simp] theorem ownL_io (xs : List PyData) : ownL (some (.io xs)) = some xs := rfl
@[simp] theorem newL_ow (xs ys : List PyData) : newL (some (.ow xs)) ys = .ow ys := rfl
@[simp] theorem newL_io (xs ys : List PyData) : newL (some (.io xs)) ys = .io ys := rfl
@[simp] theorem fNo_eq (ρ : En) : fNo ρ = some (none, ρ) := rfl
@[simp] theorem fPt_eq (f : FE) (ρ : En) : fPt f ρ = (f ρ).bind fun p => match p.1 with
  | .int i => some (some i, p.2)
  | _ => none := rfl
@[simp] theorem fCut_eq (f : FE) (l h : FO) (ρ : En) : fCut f l h ρ = (f ρ).bind fun p => (l p.2).bind fun q => (h q.2).bind fun r => (hCut q.1 r.1 p.1).map fun s => (s, r.2) := rfl
@[simp] theorem hCut_l (lo hi : Option Int) (xs : List PyData) : hCut lo hi (.list xs) = some (.ow (cutD xs lo hi)) := rfl
@[simp] theorem hCut_t (lo hi : Option Int) (xs : List PyData) : hCut lo hi (.tuple xs) = some (.sh (.tuple (cutD xs lo hi))) := rfl
@[simp] theorem fCall_eq (h : List PyData → Option Sl) (k : FA) (ρ : En) : fCall h k ρ = (k ρ).bind fun p => (h p.1).map fun s => (s, p.2) := rfl
@[simp] theorem fCallR_eq (n : Nat) (F : List PyData → Option Sl) (k : FA) (ρ : En) : fCallR n F k ρ = (k ρ).bind fun p => if p.1.length = n then (F p.1).map fun s => (s, p.2) else none := rfl
@[simp] theorem fCallB_eq (i n : Nat) (F : FBag) (k : FA) (ρ : En) : fCallB i n F k ρ = (ownL ρ[i]?).bind fun _ => (k ρ).bind fun p => if p.1.length = n then (ownL p.2[i]?).bind fun bs => (F bs p.1).map fun r => (r.1, p.2.set i (newL p.2[i]? r.2)) else none := rfl
/-! data -/
@[simp] theorem hAdd_i (i j : Int) : hAdd (.int i) (.int j) = some (.int (i + j)) := rfl
@[simp] theorem hAdd_l (xs ys : List PyData) : hAdd (.list xs) (.list ys) = if xs.length + ys.length ≤ 16777216 then some (.list (xs ++ ys)) else none := rfl
@[simp] theorem hAdd_t (xs ys : List PyData) : hAdd (.tuple xs) (.tuple ys) = if xs.length + ys.length ≤ 16777216 then some (.tuple (xs ++ ys)) else none := rfl
@[simp] theorem hSub_i (i j : Int) : hSub (.int i) (.int j) = some (.int (i - j)) := rfl
theorem hMul_i (i j : Int) : hMul (.int i) (.int j) = if (-18446744073709551616 < i ∧ i < 18446744073709551616) ∨ (-18446744073709551616 < j ∧ j < 18446744073709551616) then some (.int (i * j)) else none := rfl
theorem hMul_l {i j : Int} (h : -18446744073709551616 < i ∧ i < 18446744073709551616) : hMul (.int i) (.int j) = some (.int (i * j)) := by rw [hMul_i, if_pos (Or.inl h)]
theorem hMul_r {i j : Int} (h : -18446744073709551616 < j ∧ j < 18446744073709551616) : hMul (.int i) (.int j) = some (.int (i * j)) := by rw [hMul_i, if_pos (Or.inr h)]
theorem hMod_p {i j : Int} (h : 0 < j) : hMod (.int i) (.int j) = some (.int (i % j)) := if_pos h
theorem hDiv_p {i j : Int} (h : 0 < j ∧ j < 18446744073709551616) : hDiv (.int i) (.int j) = some (.int (i / j)) := if_pos h
@[simp] theorem hNeg_i (i : Int) : hNeg (.int i) = some (.int (-i)) := rfl
@[simp] theorem hNot_b (b : Bool) : hNot (.bool b) = some (.bool (!b)) := rfl
@[simp] theorem hLt_i (i j : Int) : hLt (.int i) (.int j) = some (.bool (decide (i < j))) := rfl
@[simp] theorem hLe_i (i j : Int) : hLe (.int i) (.int j) = some (.bool (decide (i ≤ j))) := rfl
@[simp] theorem hGt_i (i j : Int) : hGt (.int i) (.int j) = some (.bool (decide (j < i))) := rfl
@[simp] theorem hGe_i (i j : Int) : hGe (.int i) (.int j) = some (.bool (decide (j ≤ i))) := rfl
@[simp] theorem hEq_i (i j : Int) : hEq (.int i) (.int j) = some (.bool (i == j)) := rfl
@[simp] theorem hNe_i (i j : Int) : hNe (.int i) (.int j) = some (.bool (!(i == j))) := rfl
@[simp] theorem hIx_l (xs : List PyData) (i : Int) : hIx (.list xs) (.int i) = atI xs i := rfl
@[simp] theorem hIx_t (xs : List PyData) (i : Int) : hIx (.tuple xs) (.int i) = atI xs i := rfl
@[simp] theorem atI_0 {α : Type} (x : α) (xs : List α) : atI (x :: xs) 0 = some x := atI_nat (j := 0) rfl
@[simp] theorem atI_1 {α : Type} (x y : α) (xs : List α) : atI (x :: y :: xs) 1 = some y := atI_nat (j := 1) rfl
@[simp] theorem atI_2 {α : Type} (x y z : α) (xs : List α) : atI (x :: y :: z :: xs) 2 = some z := atI_nat (j := 2) rfl
@[simp] theorem hLen_l (xs : List PyData) : hLen [.list xs] = some (.sh (.int xs.length)) := rfl
@[simp] theorem hLen_t (xs : List PyData) : hLen [.tuple xs] = some (.sh (.int xs.length)) := rfl
@[simp] theorem hAbs_i (i : Int) : hAbs [.int i] = some (.sh (.int (if i < 0 then -i else i))) := rfl
@[simp] theorem hList_t (xs : List PyData) : hList [.tuple xs] = some (.ow xs) := rfl
@[simp] theorem hList_l (xs : List PyData) : hList [.list xs] = some (.ow xs) := rfl
@[simp] theorem hTuple_t (xs : List PyData) : hTuple [.tuple xs] = some (.sh (.tuple xs)) := rfl
@[simp] theorem hTuple_l (xs : List PyData) : hTuple [.list xs] = some (.sh (.tuple xs)) := rfl
@[simp] theorem hAll_l (xs : List PyData) : hAll [.list xs] = (boolsO xs).map fun bs => .sh (.bool (bs.all id)) := rfl
@[simp] theorem hSum_l (xs : List PyData) : hSum [.list xs] = (intsO xs).map fun bs => .sh (.int bs.sum) := rfl
@[simp] theorem hSorted_l (xs : List PyData) : hSorted [.list xs] = (intsO xs).map fun ns => .ow ((srtI ns).map PyData.int) := rfl
@[simp] theorem hMax_i (i j : Int) : hMax [.int i, .int j] = some (.sh (.int (if j > i then j else i))) := rfl
@[simp] theorem hMin_i (i j : Int) : hMin [.int i, .int j] = some (.sh (.int (if j < i then j else i))) := rfl
@[simp] theorem boolsO_nil : boolsO [] = some [] := rfl
@[simp] theorem boolsO_cons (b : Bool) (xs : List PyData) : boolsO (.bool b :: xs) = (boolsO xs).map (b :: ·) := rfl
@[simp] theorem intsO_nil : intsO [] = some [] := rfl
@[simp] theorem intsO_cons (b : Int) (xs : List PyData) : intsO (.int b :: xs) = (intsO xs).map (b :: ·) := rfl
theorem kB_ii : kitB "int" "int" = some true := by decide +kernel
theorem kB_bi : kitB "bool" "int" = some true := by decide +kernel
theorem kB_ni : kitB "NoneType" "int" = some false := by decide +kernel
theorem kB_si : kitB "str" "int" = some false := by decide +kernel
theorem kB_li : kitB "list" "int" = some false := by decide +kernel
theorem kB_ti : kitB "tuple" "int" = some false := by decide +kernel
theorem kB_ib : kitB "int" "bool" = some false := by decide +kernel
theorem kB_bb : kitB "bool" "bool" = some true := by decide +kernel
theorem kB_nb : kitB "NoneType" "bool" = some false := by decide +kernel
theorem kB_sb : kitB "str" "bool" = some false := by decide +kernel
theorem kB_lb : kitB "list" "bool" = some false := by decide +kernel
theorem kB_tb : kitB "tuple" "bool" = some false := by decide +kernel
theorem kB_it : kitB "int" "tuple" = some false := by decide +kernel
theorem kB_bt : kitB "bool" "tuple" = some false := by decide +kernel
theorem kB_nt : kitB "NoneType" "tuple" = some false := by decide +kernel
theorem kB_st : kitB "str" "tuple" = some false := by decide +kernel
theorem kB_lt : kitB "list" "tuple" = some false := by decide +kernel
theorem kB_tt : kitB "tuple" "tuple" = some true := by decide +kernel
theorem kB_il : kitB "int" "list" = some false := by decide +kernel
theorem kB_bl : kitB "bool" "list" = some false := by decide +kernel
theorem kB_nl : kitB "NoneType" "list" = some false := by decide +kernel
theorem kB_sl : kitB "str" "list" = some false := by decide +kernel
theorem kB_ll : kitB "list" "list" = some true := by decide +kernel
theorem kB_tl : kitB "tuple" "list" = some false := by decide +kernel
theorem kB_is : kitB "int" "str" = some false := by decide +kernel
theorem kB_bs : kitB "bool" "str" = some false := by decide +kernel
theorem kB_ns : kitB "NoneType" "str" = some false := by decide +kernel
theorem kB_ss : kitB "str" "str" = some true := by decide +kernel
theorem kB_ls : kitB "list" "str" = some false := by decide +kernel
theorem kB_ts : kitB "tuple" "str" = some false := by decide +kernel
/-- which kind a datum is of -/
def kInt : PyData → Bool
  | .int _ => true
  | .bool _ => true
  | _ => false
def kBool : PyData → Bool
  | .bool _ => true
  | _ => false
def kTup : PyData → Bool
  | .tuple _ => true
  | _ => false
def kList : PyData → Bool
  | .list _ => true
  | _ => false
def kStr : PyData → Bool
  | .str _ => true
  | _ => false
/-- no dict -/
def noDict : PyData → Bool
  | .dict _ => false
  | _ => true
theorem isi_int {d : PyData} (h : noDict d = true) : hIsi "int" d = some (.bool (kInt d)) := by
  cases d with
  | dict _ => cases h
  | none => exact congrArg (Option.map PyData.bool) kB_ni
  | bool _ => exact congrArg (Option.map PyData.bool) kB_bi
  | int _ => exact congrArg (Option.map PyData.bool) kB_ii
  | str _ => exact congrArg (Option.map PyData.bool) kB_si
  | list _ => exact congrArg (Option.map PyData.bool) kB_li
  | tuple _ => exact congrArg (Option.map PyData.bool) kB_ti
theorem isi_bool {d : PyData} (h : noDict d = true) : hIsi "bool" d = some (.bool (kBool d)) := by
  cases d with
  | dict _ => cases h
  | none => exact congrArg (Option.map PyData.bool) kB_nb
  | bool _ => exact congrArg (Option.map PyData.bool) kB_bb
  | int _ => exact congrArg (Option.map PyData.bool) kB_ib
  | str _ => exact congrArg (Option.map PyData.bool) kB_sb
  | list _ => exact congrArg (Option.map PyData.bool) kB_lb
  | tuple _ => exact congrArg (Option.map PyData.bool) kB_tb
theorem isi_tup {d : PyData} (h : noDict d = true) : hIsi "tuple" d = some (.bool (kTup d)) := by
  cases d with
  | dict _ => cases h
  | none => exact congrArg (Option.map PyData.bool) kB_nt
  | bool _ => exact congrArg (Option.map PyData.bool) kB_bt
  | int _ => exact congrArg (Option.map PyData.bool) kB_it
  | str _ => exact congrArg (Option.map PyData.bool) kB_st
  | list _ => exact congrArg (Option.map PyData.bool) kB_lt
  | tuple _ => exact congrArg (Option.map PyData.bool) kB_tt
theorem isi_list {d : PyData} (h : noDict d = true) : hIsi "list" d = some (.bool (kList d)) := by
  cases d with
  | dict _ => cases h
  | none => exact congrArg (Option.map PyData.bool) kB_nl
  | bool _ => exact congrArg (Option.map PyData.bool) kB_bl
  | int _ => exact congrArg (Option.map PyData.bool) kB_il
  | str _ => exact congrArg (Option.map PyData.bool) kB_sl
  | list _ => exact congrArg (Option.map PyData.bool) kB_ll
  | tuple _ => exact congrArg (Option.map PyData.bool) kB_tl
theorem isi_str {d : PyData} (h : noDict d = true) : hIsi "str" d = some (.bool (kStr d)) := by
  cases d with
  | dict _ => cases h
  | none => exact congrArg (Option.map PyData.bool) kB_ns
  | bool _ => exact congrArg (Option.map PyData.bool) kB_bs
  | int _ => exact congrArg (Option.map PyData.bool) kB_is
  | str _ => exact congrArg (Option.map PyData.bool) kB_ss
  | list _ => exact congrArg (Option.map PyData.bool) kB_ls
  | tuple _ => exact congrArg (Option.map PyData.bool) kB_ts
@[simp] theorem isi_int_i (i : Int) : hIsi "int" (.int i) = some (.bool true) := isi_int rfl
@[simp] theorem isi_bool_i (i : Int) : hIsi "bool" (.int i) = some (.bool false) := isi_bool rfl
@[simp] theorem isi_bool_b (i : Bool) : hIsi "bool" (.bool i) = some (.bool true) := isi_bool rfl
@[simp] theorem isi_tup_t (xs : List PyData) : hIsi "tuple" (.tuple xs) = some (.bool true) := isi_tup rfl
@[simp] theorem isi_list_l (xs : List PyData) : hIsi "list" (.list xs) = some (.bool true) := isi_list rfl
/-! statements -/
@[simp] theorem fNext_eq (ρ : En) : fNext ρ = some (.nx ρ) := rfl
@[simp] theorem fSeq_eq (F F2 : FS) (ρ : En) : fSeq F F2 ρ = (F ρ).bind fun o => match o with
  | .nx ρ1 => F2 ρ1
  | o => some o := rfl
theorem fSeq_nx {F F2 : FS} {ρ ρ1 : En} (h : F ρ = some (.nx ρ1)) : fSeq F F2 ρ = F2 ρ1 := by
  rw [fSeq_eq, h]
  rfl
@[simp] theorem fSet_eq (i : Nat) (f : FR) (ρ : En) : fSet i f ρ = (f ρ).map fun p => .nx (p.2.set i p.1) := rfl
@[simp] theorem fAsg_eq (g : FG) (f : FE) (ρ : En) : fAsg g f ρ = (f ρ).bind fun p => (g p.1 p.2).map .nx := rfl
@[simp] theorem fGive_eq (i : Nat) (ρ : En) : fGive i ρ = match ρ[i]? with
  | some (.un) => none
  | some (.ad _) => none
  | some (.io _) => none
  | some (.lk _) => none
  | some (.lt _) => none
  | some (.pi) => none
  | some (.sh d) => some (.sh d, ρ)
  | some s => some (s, ρ.set i .un)
  | none => none := rfl
@[simp] theorem fRet_eq (f : FR) (ρ : En) : fRet f ρ = (f ρ).map fun p => .rt p.1 p.2 := rfl
@[simp] theorem fIf_eq (c : FT) (F F2 : FS) (ρ : En) : fIf c F F2 ρ = (c ρ).bind fun p => if p.1 = true then F p.2 else F2 p.2 := rfl
@[simp] theorem fDrop_eq (f : FE) (ρ : En) : fDrop f ρ = (f ρ).map fun p => .nx p.2 := rfl
@[simp] theorem fNev_eq (ρ : En) : fNev ρ = none := rfl
@[simp] theorem fAppend_eq (i : Nat) (f : FE) (ρ : En) : fAppend i f ρ = (f ρ).bind fun p => (ownL ρ[i]?).bind fun _ => (ownL p.2[i]?).bind fun xs =>
  if xs.length < 16777216 then some (.nx (p.2.set i (newL p.2[i]? (xs ++ [p.1])))) else none := rfl
@[simp] theorem fExtend_eq (i : Nat) (f : FE) (ρ : En) : fExtend i f ρ = (f ρ).bind fun p => (ownL ρ[i]?).bind fun _ => (ownL p.2[i]?).bind fun xs => match p.1 with
  | .list ys => if xs.length + ys.length ≤ 16777216 then some (.nx (p.2.set i (newL p.2[i]? (xs ++ ys)))) else none
  | _ => none := rfl
@[simp] theorem fPut_eq (i : Nat) (k : FE) (f : FE) (ρ : En) : fPut i k f ρ = (f ρ).bind fun p => (k p.2).bind fun q => (ownL p.2[i]?).bind fun _ => (ownL q.2[i]?).bind fun xs => match q.1 with
  | .int z => (ixN xs.length z).map fun j => .nx (q.2.set i (newL q.2[i]? (xs.set j p.1)))
  | _ => none := rfl
@[simp] theorem gVar_eq (i : Nat) (d : PyData) (ρ : En) : gVar i d ρ = some (ρ.set i (.sh d)) := rfl
@[simp] theorem gNo_nil (ρ : En) : gNo [] ρ = some ρ := rfl
@[simp] theorem gCo_cons (g : FG) (h : FGs) (d : PyData) (ds : List PyData) (ρ : En) : gCo g h (d :: ds) ρ = (g d ρ).bind fun ρ1 => h ds ρ1 := rfl
@[simp] theorem gTu_t (n : Nat) (h : FGs) (ds : List PyData) (ρ : En) : gTu n h (.tuple ds) ρ = if ds.length = n then h ds ρ else none := rfl
@[simp] theorem resO_rt (s : Sl) (ρ : En) : resO (.rt s ρ) = some s := rfl
@[simp] theorem resO_nx (ρ : En) : resO (.nx ρ) = some (.sh .none) := rfl
@[simp] theorem resB_rt (s : Sl) (ρ : En) : resB (.rt s ρ) = bagO ρ s := rfl
@[simp] theorem resB_nx (ρ : En) : resB (.nx ρ) = bagO ρ (.sh .none) := rfl
@[simp] theorem bagO_io (bs : List PyData) (ρ : En) (s : Sl) : bagO (.io bs :: ρ) s = some (s, bs) := rfl
@[simp] theorem fItems_eq (f : FE) (ρ : En) : fItems f ρ = (f ρ).bind fun p => (itemsD p.1).map fun xs => (xs, p.2) := rfl
@[simp] theorem itemsD_l (xs : List PyData) : itemsD (.list xs) = some xs := rfl
@[simp] theorem itemsD_t (xs : List PyData) : itemsD (.tuple xs) = some xs := rfl
@[simp] theorem fRg_eq (h : List PyData → Option (List PyData)) (k : FA) (ρ : En) : fRg h k ρ = (k ρ).bind fun p => (h p.1).map fun xs => (xs, p.2) := rfl
@[simp] theorem zp2_l (xs ys : List PyData) : zp2 [.list xs, .list ys] = some (zipD xs ys) := rfl
@[simp] theorem zp2_t (xs ys : List PyData) : zp2 [.tuple xs, .tuple ys] = some (zipD xs ys) := rfl
@[simp] theorem zipD_nil : zipD [] [] = [] := rfl
@[simp] theorem zipD_cons (x y : PyData) (xs ys : List PyData) : zipD (x :: xs) (y :: ys) = .tuple [x, y] :: zipD xs ys := rfl
@[simp] theorem forL_nil (g : FG) (F : FS) (ρ : En) : forL g F [] ρ = some (.nx ρ) := rfl
@[simp] theorem forL_cons (g : FG) (F : FS) (d : PyData) (ds : List PyData) (ρ : En) : forL g F (d :: ds) ρ = (g d ρ).bind fun ρ1 => (F ρ1).bind fun o => match o with
  | .nx ρ2 => forL g F ds ρ2
  | .ct ρ2 => forL g F ds ρ2
  | .bk ρ2 => some (.nx ρ2)
  | .rt s ρ2 => some (.rt s ρ2) := rfl
@[simp] theorem fFor_eq (it : FI) (g : FG) (F : FS) (ρ : En) : fFor it g F ρ = (it ρ).bind fun p => forL g F p.1 p.2 := rfl
@[simp] theorem fLc_eq (vs : List Nat) (it : FI) (g : FG) (tt : FT) (te : FE) (ρ : En) : fLc vs it g tt te ρ = (it ρ).bind fun p => if p.1.length ≤ 16000000 then (lcL vs g tt te p.1 (wipeE p.2 vs)).map fun r => (.ow r.1, wipeE r.2 vs) else none := rfl
@[simp] theorem lcL_nil (vs : List Nat) (g : FG) (tt : FT) (te : FE) (ρ : En) : lcL vs g tt te [] ρ = some ([], ρ) := rfl
@[simp] theorem lcL_cons (vs : List Nat) (g : FG) (tt : FT) (te : FE) (d : PyData) (ds : List PyData) (ρ : En) : lcL vs g tt te (d :: ds) ρ = (g d ρ).bind fun ρ1 => (tt ρ1).bind fun p => if p.1 = true then (te p.2).bind fun q => (lcL vs g tt te ds (wipeE q.2 vs)).map fun r => (q.1 :: r.1, r.2) else lcL vs g tt te ds (wipeE p.2 vs) := rfl
@[simp] theorem fYes_eq (ρ : En) : fYes ρ = some (true, ρ) := rfl
@[simp] theorem wipeE_nil (ρ : En) : wipeE ρ [] = ρ := rfl
@[simp] theorem wipeE_cons (ρ : En) (v : Nat) (vs : List Nat) : wipeE ρ (v :: vs) = (wipeE ρ vs).set v .un := rfl
@[simp] theorem fNilR_eq (ρ : En) : fNilR ρ = some ([], ρ) := rfl
@[simp] theorem fConsR_eq (f : FR) (g : FAR) (ρ : En) : fConsR f g ρ = (f ρ).bind fun p => (g p.2).map fun q => (p.1 :: q.1, q.2) := rfl
@[simp] theorem fPar2_eq (i j : Nat) (f : FAR) (ρ : En) : fPar2 i j f ρ = (f ρ).bind fun p => match p.1 with
  | [s, t] => some (.nx ((p.2.set i s).set j t))
  | _ => none := rfl
@[simp] theorem fPar3_eq (i j l : Nat) (f : FAR) (ρ : En) : fPar3 i j l f ρ = (f ρ).bind fun p => match p.1 with
  | [s, t, u] => some (.nx (((p.2.set i s).set j t).set l u))
  | _ => none := rfl
theorem rangeD_two : rangeD 0 2 = [.int 0, .int 1] := rfl
@[simp] theorem rg1_2 : rg1 [.int 2] = some [.int 0, .int 1] := rfl
/-- a comprehension without tests whose items are known one by one -/
theorem lcL_map {α : Type} {vs : List Nat} {g : FG} {te : FE} {ρ : En} (toD : α → PyData) (fn : α → PyData) : ∀ xs : List α, (∀ x ∈ xs, ∃ ρ1 ρ2, g (toD x) ρ = some ρ1 ∧ te ρ1 = some (fn x, ρ2) ∧ wipeE ρ2 vs = ρ) → lcL vs g fYes te (xs.map toD) ρ = some (xs.map fn, ρ)
  | [], _ => rfl
  | x :: xs, h => by
    obtain ⟨ρ1, ρ2, h1, h2, h3⟩ := h x List.mem_cons_self
    rw [List.map_cons, lcL_cons, h1, Option.bind_some, fYes_eq, Option.bind_some, if_pos rfl]
    show (te ρ1).bind _ = _
    rw [h2, Option.bind_some, h3, lcL_map toD fn xs fun y hy => h y (List.mem_cons_of_mem _ hy)]
    rfl
/-- a loop whose turns are known one by one -/
theorem forL_fold {α β : Type} {g : FG} {F : FS} (toD : α → PyData) (st : β → En) (step : β → α → β) : ∀ (xs : List α) (b : β), (∀ b x, x ∈ xs → ∃ ρ1, g (toD x) (st b) = some ρ1 ∧ ∃ ρ2, F ρ1 = some (.nx ρ2) ∧ ρ2 = st (step b x)) → forL g F (xs.map toD) (st b) = some (.nx (st (xs.foldl step b)))
  | [], b, _ => rfl
  | x :: xs, b, h => by
    obtain ⟨ρ1, h1, ρ2, h2, h3⟩ := h b x List.mem_cons_self
    rw [List.map_cons, forL_cons, h1, Option.bind_some, h2, Option.bind_some]
    show forL g F (xs.map toD) ρ2 = _
    rw [h3, forL_fold toD st step xs _ fun c y hy => h c y (List.mem_cons_of_mem _ hy)]
    rfl

/-! GLend: an expression whose answer is an atom leaves what it read as it was; equality of data with itself. -/
def shS : Sl → Sl
  | .ow xs => .sh (.list xs)
  | .io xs => .sh (.list xs)
  | .ok _ => .un
  | .ot _ => .un
  | .lk _ => .un
  | .lt _ => .un
  | .pi => .un
  | s => s
def atomD : PyData → Bool
  | .none => true
  | .bool _ => true
  | .int _ => true
  | .str _ => true
  | _ => false
/-- reads lists of the frame's own without giving them away -/
def fLend (f : FE) : FE := fun ρ => (f (ρ.map shS)).bind fun p => if atomD p.1 = true then some (p.1, ρ) else none
theorem atomD_dr {B B' : Hp} {v : V} {d : PyData} (h : atomD d = true) (r : Dr B v d) : Dr B' v d := by
  cases r with
  | non => exact .non
  | bl b => exact .bl b
  | int b => exact .int b
  | str b => exact .str b
  | lst h1 h2 => cases h
  | tup h1 h2 => cases h
theorem EnvOk.whole {Z : Zn} {B : Hp} {σ : L2.St} {H : Hp} {ρ : En} (ok : EnvOk Z B σ H ρ) : EnvOk ⟨fun _ => none, 0, 0⟩ H σ H (ρ.map shS) := by
  have at' : ∀ (i : Nat) s, (ρ.map shS)[i]? = some s → ∃ t, ρ[i]? = some t ∧ shS t = s := fun i s e => by
    rw [List.getElem?_map] at e
    exact Option.map_eq_some_iff.mp e
  have noown : ∀ (i : Nat) s, (ρ.map shS)[i]? = some s → isOwn s = false := fun i s e => by
    obtain ⟨t, _, h2⟩ := at' i s e
    subst h2
    cases t <;> rfl
  refine ⟨Same.refl H, fun a o e => (nomatch e), fun a o e => (nomatch e), by rw [List.length_map]; exact ok.len, fun i d e => ?_, fun i s e1 e2 => ?_, fun i xs e => ?_, fun i v e => ?_, fun i j s t a e1 e2 => ?_⟩
  · obtain ⟨t, h1, h2⟩ := at' i _ e
    cases t with
    | sh d' =>
      cases h2
      obtain ⟨v, h3, h4⟩ := ok.sh i d h1
      exact ⟨v, h3, h4.mono ok.le⟩
    | ow xs =>
      cases h2
      obtain ⟨a, o, q1, q2, q3, q4, q5⟩ := ok.ow i _ h1 rfl
      cases o with
      | lst vs => exact ⟨_, q1, .lst q2 (DrAll.mono q5 ok.le)⟩
      | _ => exact q5.elim
    | io xs =>
      cases h2
      obtain ⟨a, o, q1, q2, q3, q4, q5⟩ := ok.ow i _ h1 rfl
      cases o with
      | lst vs => exact ⟨_, q1, .lst q2 (DrAll.mono q5 ok.le)⟩
      | _ => exact q5.elim
    | un => cases h2
    | ad v => cases h2
    | ok m => cases h2
    | ot m => cases h2
    | lk m => cases h2
    | lt m => cases h2
    | pi => cases h2
  · rw [noown i s e1] at e2
    cases e2
  · have := noown i _ e
    cases this
  · obtain ⟨t, h1, h2⟩ := at' i _ e
    cases t with
    | ad w =>
      cases h2
      exact ok.ad i _ h1
    | _ => cases h2; exact trivial
  · rw [noown i s e1] at e2
    cases e2
/-- the heap has grown -/
theorem EnvOk.grow {Z : Zn} {B : Hp} {σ : L2.St} {H H' : Hp} {ρ : En} (ok : EnvOk Z B σ H ρ) (s : Same H H') : EnvOk Z B σ H' ρ :=
  ⟨ok.le.trans s, ok.lz.trans s, ok.dj, ok.len, ok.sh, fun i t e1 e2 => by
    obtain ⟨a, o, q1, q2, q3⟩ := ok.ow i t e1 e2
    exact ⟨a, o, q1, s _ _ q2, q3⟩, ok.io, ok.ad, ok.inj⟩
theorem de_lend {X : Cx} {e : Expr} {f : FE} (h : DE X e f) : DE X e (fLend f) := pe_imp h fun σ H Q ⟨Z, B, ρ, d, ρ', ok, e, q⟩ => by
  unfold fLend at e
  obtain ⟨⟨d1, ρ1⟩, e1, e2⟩ := Option.bind_eq_some_iff.mp e
  split at e2
  · rename_i ha
    cases e2
    refine ⟨_, _, _, d1, ρ1, ok.whole, e1, fun B' H' v s ok' r => ?_⟩
    exact q B H' v (Same.refl B) (ok.grow (s.trans ok'.le)) (atomD_dr ha r)
  · cases e2
def fLendT (f : FT) : FT := fun ρ => (f (ρ.map shS)).map fun p => (p.1, ρ)
theorem dt_lend {X : Cx} {e : Expr} {f : FT} (h : DT X e f) : DT X e (fLendT f) := ⟨fun pins s σ H Q I ⟨Z, B, ρ, d, ρ', ok, e, q⟩ => h.run pins s σ H Q I (by
  unfold fLendT at e
  obtain ⟨⟨b, ρ1⟩, e1, e2⟩ := Option.map_eq_some_iff.mp e
  cases e2
  exact ⟨_, _, _, b, ρ1, ok.whole, e1, fun B' H' s ok' => q B H' (Same.refl B) (ok.grow (s.trans ok'.le))⟩)⟩
@[simp] theorem fLendT_eq (f : FT) (ρ : En) : fLendT f ρ = (f (ρ.map shS)).map fun p => (p.1, ρ) := rfl
@[simp] theorem fLend_eq (f : FE) (ρ : En) : fLend f ρ = (f (ρ.map shS)).bind fun p => if atomD p.1 = true then some (p.1, ρ) else none := rfl
@[simp] theorem shS_un : shS .un = .un := rfl
@[simp] theorem shS_ad (v : V) : shS (.ad v) = .ad v := rfl
@[simp] theorem shS_sh (d : PyData) : shS (.sh d) = .sh d := rfl
@[simp] theorem shS_ow (d : List PyData) : shS (.ow d) = .sh (.list d) := rfl
@[simp] theorem shS_io (d : List PyData) : shS (.io d) = .sh (.list d) := rfl
@[simp] theorem atomD_b (b : Bool) : atomD (.bool b) = true := rfl
@[simp] theorem atomD_i (b : Int) : atomD (.int b) = true := rfl

/-- data without dicts, nested no deeper than n -/
def goodD : Nat → PyData → Bool
  | _, .none => true
  | _, .bool _ => true
  | _, .int _ => true
  | n + 1, .list xs => decide (xs.length ≤ 1000000) && xs.all (goodD n)
  | n + 1, .tuple xs => decide (xs.length ≤ 1000000) && xs.all (goodD n)
  | _, _ => false
theorem depthAll_le {n : Nat} : ∀ {xs : List PyData}, (∀ x ∈ xs, x.depth ≤ n) → PyData.depthAll xs ≤ n
  | [], _ => by simp [PyData.depthAll]
  | x :: xs, h => by
    have h1 := depthAll_le (xs := xs) fun y hy => h y (List.mem_cons_of_mem _ hy)
    have h2 := h x List.mem_cons_self
    simp only [PyData.depthAll]
    omega
theorem canLayAll_of : ∀ {xs : List PyData}, (∀ x ∈ xs, x.canLay0 = true) → PyData.canLayAll0 xs = true
  | [], _ => rfl
  | x :: xs, h => by
    simp only [PyData.canLayAll0, h x List.mem_cons_self, canLayAll_of (xs := xs) fun y hy => h y (List.mem_cons_of_mem _ hy), Bool.true_and]
theorem goodD_lay : ∀ (n : Nat) (d : PyData), goodD n d = true → d.canLay0 = true ∧ d.depth ≤ n + 1 := by
  intro n
  induction n with
  | zero =>
    intro d h
    cases d <;> first | exact ⟨rfl, by simp [PyData.depth]⟩ | (simp [goodD] at h)
  | succ n ih =>
    intro d h
    cases d with
    | none => exact ⟨rfl, by simp [PyData.depth]⟩
    | bool b => exact ⟨rfl, by simp [PyData.depth]⟩
    | int b => exact ⟨rfl, by simp [PyData.depth]⟩
    | str b => simp [goodD] at h
    | dict b => simp [goodD] at h
    | list xs =>
      simp only [goodD, Bool.and_eq_true, decide_eq_true_eq, List.all_eq_true] at h
      have h1 : PyData.canLayAll0 xs = true := canLayAll_of fun x hx => (ih x (h.2 x hx)).1
      have h2 : PyData.depthAll xs ≤ n + 1 := depthAll_le fun x hx => (ih x (h.2 x hx)).2
      have h3 := h.1
      refine ⟨?_, ?_⟩
      · simp [PyData.canLay0, h1]
        try omega
      · simp only [PyData.depth]
        omega
    | tuple xs =>
      simp only [goodD, Bool.and_eq_true, decide_eq_true_eq, List.all_eq_true] at h
      have h1 : PyData.canLayAll0 xs = true := canLayAll_of fun x hx => (ih x (h.2 x hx)).1
      have h2 : PyData.depthAll xs ≤ n + 1 := depthAll_le fun x hx => (ih x (h.2 x hx)).2
      have h3 := h.1
      refine ⟨?_, ?_⟩
      · simp [PyData.canLay0, h1]
        try omega
      · simp only [PyData.depth]
        omega
theorem goodD_shaped {d : PyData} (n : Nat) (h : goodD n d = true) (hn : n ≤ 63 := by decide) : SeqAt.shaped d = true := by
  obtain ⟨h1, h2⟩ := goodD_lay n d h
  unfold SeqAt.shaped
  rw [h1, Bool.true_and]
  exact decide_eq_true (by omega)
theorem hEq_self {d : PyData} (n : Nat) (h : goodD n d = true) (hn : n ≤ 63 := by decide) : hEq d d = some (.bool true) := by
  have h1 := goodD_shaped n h hn
  unfold hEq
  rw [if_pos ⟨h1, h1⟩, SeqAt.eqv_refl d (goodD_lay n d h).1]
theorem hNe_self {d : PyData} (n : Nat) (h : goodD n d = true) (hn : n ≤ 63 := by decide) : hNe d d = some (.bool false) := by
  have h1 := goodD_shaped n h hn
  unfold hNe
  rw [if_pos ⟨h1, h1⟩, SeqAt.eqv_refl d (goodD_lay n d h).1]
  rfl

/-! GTop: the law as a whole: what stands ahead of its main loop, the loop, True. -/
theorem sql_grow {K : PySem.W.Frag} {H H' : Hp} {a : Addr} {xs : List V} (s : Same H H') (h : SqL K H a xs) : SqL K H' a xs := by
  rcases h with (h1 | ⟨o, h1⟩) | h1
  · exact Or.inl (Or.inl (s a _ h1))
  · exact Or.inl (Or.inr ⟨o, s a _ h1⟩)
  · exact Or.inr h1
/-- runs to the end of F, then t -/
def tPre (F : FS) (t : TS) : TS := fun D σ H => ∃ Z B ρ ρ1, EnvOk Z B σ H ρ ∧ F ρ = some (.nx ρ1) ∧ ∀ B' σ' H', Same B B' → EnvOk Z B' σ' H' ρ1 → t D σ' H'
theorem pre_done {X : Cx} {rest : List Stmt} {t : TS} (h : PSs X rest t) : PSs X rest (tPre fNext t) := pss_imp h fun D σ H ⟨Z, B, ρ, ρ1, ok, e, q⟩ => by
  cases e
  exact q B σ H (Same.refl B) ok
theorem pre_cons {X : Cx} {st : Stmt} {rest : List Stmt} {F F2 : FS} {t : TS} (h1 : DS X st F) (h2 : PSs X rest (tPre F2 t)) : PSs X (st :: rest) (tPre (fSeq F F2) t) := pss_imp (pss_cons h1 h2) fun D σ H ⟨Z, B, ρ, ρ1, ok, e, q⟩ => by
  unfold fSeq at e
  obtain ⟨o1, e1, e2⟩ := Option.bind_eq_some_iff.mp e
  refine ⟨Z, B, ρ, o1, ok, e1, fun B1 s1 => ?_⟩
  cases o1 with
  | nx ρ2 => exact fun σ1 H1 ok1 => ⟨Z, B1, ρ2, ρ1, ok1, e2, fun B2 σ2 H2 s2 ok2 => q B2 σ2 H2 (s1.trans s2) ok2⟩
  | rt s ρ2 => cases e2
  | bk ρ2 => cases e2
  | ct ρ2 => cases e2
def tLaw (K : PySem.W.Frag) (m : Int) (ib : Nat) (Fp Fm : FS) : TS := tPre Fp (tSeq (tMain K m ib Fm) (tS (fRet (fSh (fC (.bool true))))))
/-- what is asked of the pure law: n slots, m bags, the bag's slot ib -/
def LawOk (n : Nat) (m : Int) (ib : Nat) (Fp Fm : FS) : Prop := ∀ v : V, ∃ ρ1 ρL, Fp (.ad v :: List.replicate (n - 1) .un) = some (.nx ρ1) ∧ Fits ρL ρ1 ∧ (∀ (j : Nat) s, ρL[j]? = some s → isOwn s = false) ∧ ρ1[0]? = some (.ad v) ∧ ρL[ib]? = some .un ∧
  ∀ b, BagOk 100000 b → ∃ ρ', Fm (ρL.set ib (.ow (b.map PyData.int))) = some (.nx ρ') ∧ Fits ρL ρ'
theorem law_reading {K : PySem.W.Frag} {N : List Str} {n : Nat} {m : Int} {ib : Nat} {Fp Fm : FS} (hn : N.length = n) (hn0 : 0 < n) (hm0 : 0 ≤ m) (hm1 : m ≤ 63) (ok : LawOk n m ib Fp Fm) {vs : List V} {H : Hp} {Q : VK} {E : XK} (h : spLaw K vs H Q E) :
    tLaw K m ib Fp Fm { nx := fun _ H' => Q .non H', rt := Q } (L2.start N vs) H := by
  obtain ⟨a, ns, rfl, hS, hl, q⟩ := h
  obtain ⟨ρ1, ρL, e1, hfit, hno, h1, h2, hF⟩ := ok (.ref a)
  have env := env_law (N := N) (H := H) (a := a) (by rw [hn]; exact hn0)
  rw [hn] at env
  refine ⟨_, _, _, ρ1, env, e1, fun B1 σ1 H1 s1 ok1 => ?_⟩
  refine ⟨_, B1, ρ1, ρL, a, ns, ok1, hfit, hno, h1, fun H' s => sql_grow s hS, hl, hm0, hm1, hF, h2, fun B2 σ2 H2 s2 ok2 => ?_⟩
  refine ⟨_, B2, ρL, _, ok2, rfl, fun B3 s3 σ3 H3 v ok3 r => ?_⟩
  rcases r with ⟨d, e, r⟩ | ⟨_, o, _, _, _, _, _, h5, _⟩
  · cases e
    cases r
    exact q H3
  · cases o <;> exact h5.elim
def lookPre : Option Out → Option (Nat × Option Sl)
  | some (.nx ρ) => some (ρ.length, ρ[0]?)
  | _ => none
/-- the statements ahead, where they are reckoned by plain running -/
theorem pre_of {F : FS} {m : Nat} {v : V} {ρ : En} (h : lookPre (F ρ) = some (m, some (.ad v))) : ∃ ρ1, F ρ = some (.nx ρ1) ∧ ρ1.length = m ∧ ρ1[0]? = some (.ad v) := by
  unfold lookPre at h
  split at h
  · rename_i ρ1 e
    have h' := Prod.mk.inj (Option.some.inj h)
    exact ⟨ρ1, e, h'.1, h'.2⟩
  · cases h
/-- slots known after the statements ahead: none but the script -/
theorem fits_bare {v : V} {n : Nat} {ρ : En} (hl : ρ.length = n + 1) (h0 : ρ[0]? = some (.ad v)) : Fits (.ad v :: List.replicate n .un) ρ := by
  refine ⟨by rw [List.length_cons, List.length_replicate, hl], fun j s e => ?_⟩
  cases j with
  | zero =>
    cases e
    exact .inr h0
  | succ j => exact .inl (List.eq_of_mem_replicate (List.mem_of_getElem? (show (List.replicate n Sl.un)[j]? = some s from e)))
theorem bare_noown {v : V} {n : Nat} : ∀ (j : Nat) s, (Sl.ad v :: List.replicate n Sl.un)[j]? = some s → isOwn s = false := fun j s e => by
  cases j with
  | zero =>
    cases e
    rfl
  | succ j =>
    rw [List.eq_of_mem_replicate (List.mem_of_getElem? (show (List.replicate n Sl.un)[j]? = some s from e))]
    rfl
/-- where nothing ahead of the loop is used in it -/
theorem lawOk_bare {n : Nat} {m : Int} {ib : Nat} {Fp Fm : FS} (hib : ib - 1 < n) (hib0 : ib ≠ 0) (hp : ∀ v, ∃ ρ1, Fp (.ad v :: List.replicate n .un) = some (.nx ρ1) ∧ ρ1.length = n + 1 ∧ ρ1[0]? = some (.ad v))
    (hm : ∀ v b, BagOk 100000 b → ∃ ρ', Fm ((Sl.ad v :: List.replicate n .un).set ib (.ow (b.map PyData.int))) = some (.nx ρ') ∧ ρ'.length = n + 1 ∧ ρ'[0]? = some (.ad v)) : LawOk (n + 1) m ib Fp Fm := fun v => by
  obtain ⟨ρ1, e1, h1, h2⟩ := hp v
  refine ⟨ρ1, .ad v :: List.replicate n .un, e1, fits_bare h1 h2, bare_noown, h2, ?_, fun b hb => ?_⟩
  · cases ib with
    | zero => exact (hib0 rfl).elim
    | succ j =>
      show (List.replicate n Sl.un)[j]? = some Sl.un
      rw [List.getElem?_replicate, if_pos (by omega)]
  · obtain ⟨ρ', e2, h3, h4⟩ := hm v b hb
    exact ⟨ρ', e2, fits_bare h3 h4⟩

/-! GLc2: comprehensions with two fors. -/
def lcL2 (vs vs1 : List Nat) (g : FG) (tt : FT) (it1 : FI) (g1 : FG) (tt1 : FT) (te : FE) : List PyData → En → Option (List PyData × En)
  | [], ρ => some ([], ρ)
  | d :: ds, ρ => (g d ρ).bind fun ρ1 => (tt ρ1).bind fun p => if p.1 = true then (it1 p.2).bind fun q => (lcL vs1 g1 tt1 te q.1 (wipeE q.2 vs1)).bind fun r => (lcL2 vs vs1 g tt it1 g1 tt1 te ds (wipeE r.2 vs)).map fun t => (r.1 ++ t.1, t.2) else lcL2 vs vs1 g tt it1 g1 tt1 te ds (wipeE p.2 vs)
def fLc2 (vs vs1 : List Nat) (it : FI) (g : FG) (tt : FT) (it1 : FI) (g1 : FG) (tt1 : FT) (te : FE) : FR := fun ρ => (it ρ).bind fun p => (lcL2 vs vs1 g tt it1 g1 tt1 te p.1 (wipeE p.2 vs)).bind fun r => if r.1.length ≤ 16000000 then some (.ow r.1, wipeE r.2 vs) else none
theorem tLc2_of {it it1 : FI} {g g1 : FG} {tt tt1 : FT} {te : FE} {vs js vs1 js1 : List Nat} (hj : ∀ j ∈ js, j ∈ vs) (hj1 : ∀ j ∈ js1, j ∈ vs1) (hv : ∀ j ∈ vs1, j ∈ vs) : ∀ σ H Q, tR (fLc2 vs vs1 it g tt it1 g1 tt1 te) σ H Q → tLc2 (tI it) (tG js g) (tT tt) (tI it1) (tG js1 g1) (tT tt1) (tE te) vs vs1 σ H Q := fun σ H Q ⟨Z, B, ρ, s, ρ', ok, q0, q⟩ => by
  unfold fLc2 at q0
  obtain ⟨⟨ds, ρ1⟩, e1, e2⟩ := Option.bind_eq_some_iff.mp q0
  obtain ⟨⟨ys, ρe⟩, e3, e4⟩ := Option.bind_eq_some_iff.mp e2
  split at e4
  case isFalse => cases e4
  rename_i hlen
  cases e4
  refine ⟨Z, B, ρ, ds, ρ1, ok, e1, fun B1 H1 J s1 ok1 wk D hD => ?_⟩
  have zD : Z.fr D = none := ok1.lz.free hD
  have bD : B1 D = none := ok1.le.free hD
  have start : EnvOk (Z.upd D (.lst [])) B1 (wipe σ vs) (upd H1 D (.lst [])) (wipeE ρ1 vs) := by
    have h1 : EnvOk Z B1 (wipe σ vs) H1 (wipeE ρ1 vs) := ok1.swap (wipe_length σ vs) fun j hj => wipe_out hj
    exact (h1.junk hD).keep upd_same bD (NotOwn.new h1 hD)
  refine ⟨fun i m H2 => m = ds.length - i ∧ i ≤ ds.length ∧ ∃ B2 ρ2 acc accV rest, Same B1 B2 ∧ EnvOk (Z.upd D (.lst accV)) B2 (wipe σ vs) H2 ρ2 ∧ DrAll B2 accV acc ∧ lcL2 vs vs1 g tt it1 g1 tt1 te (ds.drop i) ρ2 = some (rest, ρe) ∧ acc ++ rest = ys,
    ⟨ds.length, by simp, Nat.zero_le _, B1, _, [], [], ys, Same.refl B1, start, .nil, by rw [List.drop_zero]; exact e3, rfl⟩, fun i m H2 hW => ?_⟩
  obtain ⟨rfl, hi, B2, ρ2, acc, accV, rest, s2, ok2, da, hf, hy⟩ := hW
  have hDz : (Z.upd D (.lst accV)).fr D = some (.lst accV) := upd_same
  have sz : ∀ l, Same Z.fr (Z.upd D (.lst l)).fr := fun l => same_upd_new zD
  by_cases h : i < ds.length
  · obtain ⟨d, h1, h2⟩ := drop_at h
    rw [h2] at hf
    obtain ⟨ρ3, e5, e6⟩ := Option.bind_eq_some_iff.mp hf
    obtain ⟨⟨b, ρ4⟩, e7, e8⟩ := Option.bind_eq_some_iff.mp e6
    obtain ⟨go, yl⟩ := (wk _ B2 (wipe σ vs) H2 ρ2 i s2 ok2).2 d h1
    refine .inr ⟨go, fun H' => ∃ B3 ρ3 acc accV rest, Same B1 B3 ∧ EnvOk (Z.upd D (.lst accV)) B3 (wipe σ vs) H' ρ3 ∧ DrAll B3 accV acc ∧ lcL2 vs vs1 g tt it1 g1 tt1 te (ds.drop (i + 1)) ρ3 = some (rest, ρe) ∧ acc ++ rest = ys, fun H' hN => ⟨ds.length - (i + 1), by omega, rfl, h, hN⟩, fun x H' hy' => ?_⟩
    obtain ⟨B3, s3, ok3, dx⟩ := yl x H' hy'
    refine ⟨_, B3, ρ2, d, ρ3, ok3, dx, e5, fun σ3 ok4 hσ => ⟨?_, _, B3, ρ3, b, ρ4, ok4, e7, fun B4 H4 s4 ok5 => ?_⟩⟩
    · rw [← wipe_wipe σ vs]
      exact wipe_eq hσ.len fun j hj' => hσ.out j fun z => hj' (hj j z)
    have back : ∀ {Z' : Zn} {B' H' : Hp} {ρ' : En}, EnvOk Z' B' σ3 H' ρ' → EnvOk Z' B' (wipe σ vs) H' (wipeE ρ' vs) := fun ok' => ok'.swap hσ.len.symm fun j hj' => (hσ.out j fun z => hj' (hj j z)).symm
    cases b with
    | true =>
      rw [if_pos rfl] at e8
      refine iteT ?_
      obtain ⟨⟨ds1, ρ5⟩, e9, e10⟩ := Option.bind_eq_some_iff.mp e8
      obtain ⟨⟨ys1, ρ6⟩, e11, e12⟩ := Option.bind_eq_some_iff.mp e10
      obtain ⟨⟨rest', ρ7⟩, e13, e14⟩ := Option.map_eq_some_iff.mp e12
      cases e14
      refine ⟨_, B4, ρ4, ds1, ρ5, ok5, e9, fun B5 H5 J1 s5 ok6 wk1 => ?_⟩
      have s25 : Same B2 B5 := s3.trans (s4.trans s5)
      refine ⟨fun j k H6 => k = ds1.length - j ∧ j ≤ ds1.length ∧ ∃ B6 ρ6' acc1 accV1 rest1, Same B5 B6 ∧ EnvOk (Z.upd D (.lst accV1)) B6 (wipe σ3 vs1) H6 ρ6' ∧ DrAll B6 accV1 acc1 ∧ lcL vs1 g1 tt1 te (ds1.drop j) ρ6' = some (rest1, ρ6) ∧ acc1 ++ rest1 = acc ++ ys1,
        ⟨ds1.length, by simp, Nat.zero_le _, B5, _, acc, accV, ys1, Same.refl B5, ok6.swap (wipe_length σ3 vs1) fun j hj => wipe_out hj, da.mono s25, by rw [List.drop_zero]; exact e11, rfl⟩, fun j k H6 hW1 => ?_⟩
      obtain ⟨rfl, hi1, B6, ρ8, acc1, accV1, rest1, s6, ok7, da1, hf1, hy1⟩ := hW1
      have hDz1 : (Z.upd D (.lst accV1)).fr D = some (.lst accV1) := upd_same
      by_cases h3 : j < ds1.length
      · obtain ⟨d1, h4, h5⟩ := drop_at h3
        rw [h5] at hf1
        obtain ⟨ρ9, f1, f2⟩ := Option.bind_eq_some_iff.mp hf1
        obtain ⟨⟨b1, ρ10⟩, f3, f4⟩ := Option.bind_eq_some_iff.mp f2
        obtain ⟨go1, yl1⟩ := (wk1 _ B6 (wipe σ3 vs1) H6 ρ8 j s6 ok7).2 d1 h4
        refine .inr ⟨go1, fun H' => ∃ B7 ρ6' acc1 accV1 rest1, Same B5 B7 ∧ EnvOk (Z.upd D (.lst accV1)) B7 (wipe σ3 vs1) H' ρ6' ∧ DrAll B7 accV1 acc1 ∧ lcL vs1 g1 tt1 te (ds1.drop (j + 1)) ρ6' = some (rest1, ρ6) ∧ acc1 ++ rest1 = acc ++ ys1, fun H' hN => ⟨ds1.length - (j + 1), by omega, rfl, h3, hN⟩, fun x1 H7 hy7 => ?_⟩
        obtain ⟨B7, s7, ok8, dx1⟩ := yl1 x1 H7 hy7
        refine ⟨_, B7, ρ8, d1, ρ9, ok8, dx1, f1, fun σ4 ok9 hσ1 => ⟨?_, _, B7, ρ9, b1, ρ10, ok9, f3, fun B8 H8 s8 ok10 => ?_⟩⟩
        · rw [← wipe_wipe σ3 vs1]
          exact wipe_eq hσ1.len fun j hj' => hσ1.out j fun z => hj' (hj1 j z)
        have back1 : ∀ {Z' : Zn} {B' H' : Hp} {ρ' : En}, EnvOk Z' B' σ4 H' ρ' → EnvOk Z' B' (wipe σ3 vs1) H' (wipeE ρ' vs1) := fun ok' => ok'.swap hσ1.len.symm fun j hj' => (hσ1.out j fun z => hj' (hj1 j z)).symm
        cases b1 with
        | true =>
          rw [if_pos rfl] at f4
          refine iteT ?_
          obtain ⟨⟨y, ρ11⟩, f5, f6⟩ := Option.bind_eq_some_iff.mp f4
          obtain ⟨⟨rest2, ρ12⟩, f7, f8⟩ := Option.map_eq_some_iff.mp f6
          cases f8
          refine ⟨_, B8, ρ10, y, ρ11, ok10, f5, fun B9 H9 v s9 ok11 dv => ?_⟩
          have s69 : Same B6 B9 := s7.trans (s8.trans s9)
          have hD9 : H9 D = some (.lst accV1) := ok11.lz _ _ hDz1
          have bD9 : B9 D = none := ok11.dj _ _ hDz1
          have nD9 : NotOwn σ4 ρ11 D := fun j s' f1 f2 f3 => by
            obtain ⟨a, o, g1, g2, g3, g4, _⟩ := ok11.ow j s' f1 f2
            rw [f3] at g1
            have g5 : D = a := V.ref.inj (Option.some.inj (Option.some.inj g1))
            rw [← g5, hDz1] at g4
            cases g4
          have hl : acc1.length < 16000000 := by
            have z1 := congrArg List.length hy1
            have z2 := congrArg List.length hy
            simp only [List.length_append, List.length_cons] at z1 z2
            have z3 : ys.length ≤ 16000000 := hlen
            omega
          refine ⟨accV1, hD9, by rw [da1.length]; exact Nat.lt_trans hl (by decide), B9, _, acc1 ++ [y], accV1 ++ [v], rest2, s6.trans s69, ?_, (da1.mono s69).app (.cons dv .nil), f7, by rw [List.append_assoc]; exact hy1⟩
          exact back1 (((ok11.zle (sz accV1) rfl).other bD9 zD nD9).keep upd_same bD9 nD9)
        | false =>
          rw [if_neg Bool.false_ne_true] at f4
          refine iteF ?_
          exact ⟨B8, _, acc1, accV1, rest1, s6.trans (s7.trans s8), back1 ok10, da1.mono (s7.trans s8), f4, hy1⟩
      · have e : j = ds1.length := by omega
        rw [e, List.drop_length] at hf1
        cases hf1
        rw [List.append_nil] at hy1
        refine .inl ⟨(wk1 _ B6 (wipe σ3 vs1) H6 _ j s6 ok7).1 e, B6, _, acc1, accV1, rest', (s2.trans s25).trans s6, ?_, da1, e13, by rw [hy1, List.append_assoc]; exact hy⟩
        refine ok7.swap ?_ fun j hj' => ?_
        · rw [wipe_length σ3 vs1]
          exact hσ.len.symm
        · rw [wipe_out (fun z => hj' (hv j z))]
          exact (hσ.out j fun z => hj' (hj j z)).symm
    | false =>
      rw [if_neg Bool.false_ne_true] at e8
      refine iteF ?_
      exact ⟨B4, _, acc, accV, rest, s2.trans (s3.trans s4), back ok5, da.mono (s3.trans s4), e8, hy⟩
  · have e : i = ds.length := by omega
    rw [e, List.drop_length] at hf
    cases hf
    rw [List.append_nil] at hy
    subst hy
    refine .inl ⟨(wk _ B2 (wipe σ vs) H2 _ i s2 ok2).1 e, ?_⟩
    have hD2 : H2 D = some (.lst accV) := ok2.lz _ _ hDz
    have bD2 : B2 D = none := ok2.dj _ _ hDz
    have ok3 : EnvOk Z B2 σ H2 (wipeE ρe vs) := (ok2.zle (sz accV) rfl).swap (wipe_length σ vs).symm fun j hj' => (wipe_out hj').symm
    have nD : NotOwn σ (wipeE ρe vs) D := fun j s' f1 f2 f3 => by
      rcases wipeE_at f1 with z | ⟨h3, h4⟩
      · subst z
        cases f2
      · obtain ⟨a, o, g1, g2, g3, g4, _⟩ := ok2.ow j s' h4 f2
        rw [wipe_out h3, f3] at g1
        have g5 : D = a := V.ref.inj (Option.some.inj (Option.some.inj g1))
        rw [← g5, hDz] at g4
        cases g4
    exact q B2 H2 _ (s1.trans s2) ok3 (.inr ⟨D, _, rfl, hD2, bD2, zD, nD, da, rfl⟩)
section
variable {X : Cx} {elt tg iter tg1 iter1 : Expr} {ifs ifs1 : List Expr} {scope : Scope} {own : List (Str × Nat)} {pos : Pos} {it it1 : FI} {g g1 : FG} {tt tt1 : FT} {te : FE} {js vs js1 : List Nat}
theorem dr_lc2 (vs1 : List Nat) (hN : X.N.Nodup) (hi : DI X tg iter it) (ok : BlkOk X.N X.env.scope scope own)
    (hg : ∀ (s : Shared) (H : Hp) (C : Addr) (cl : List (Str × Addr)) (fp : List Addr), DG (X.blk s H scope (compEnvC scope cl C X.env) fp) tg js g)
    (ht : ∀ (s : Shared) (H : Hp) (C : Addr) (cl : List (Str × Addr)) (fp : List Addr), DTs (X.blk s H scope (compEnvC scope cl C X.env) fp) ifs tt)
    (hi1 : ∀ (s : Shared) (H : Hp) (C : Addr) (cl : List (Str × Addr)) (fp : List Addr), DI (X.blk s H scope (compEnvC scope cl C X.env) fp) tg1 iter1 it1)
    (hg1 : ∀ (s : Shared) (H : Hp) (C : Addr) (cl : List (Str × Addr)) (fp : List Addr), DG (X.blk s H scope (compEnvC scope cl C X.env) fp) tg1 js1 g1)
    (ht1 : ∀ (s : Shared) (H : Hp) (C : Addr) (cl : List (Str × Addr)) (fp : List Addr), DTs (X.blk s H scope (compEnvC scope cl C X.env) fp) ifs1 tt1)
    (he : ∀ (s : Shared) (H : Hp) (C : Addr) (cl : List (Str × Addr)) (fp : List Addr), DE (X.blk s H scope (compEnvC scope cl C X.env) fp) elt te)
    (hc : X.calm = true := by rfl) (hv : own.map (·.2) = vs := by rfl) (hj : ∀ j ∈ js, j ∈ vs := by decide) (hj1 : ∀ j ∈ js1, j ∈ vs1 := by decide) (hv1 : ∀ j ∈ vs1, j ∈ own.map (·.2) := by decide) (hs : ∀ x, foldedSetIterable iter X.env x = pure x := by intro _; rfl) (hs1 : ∀ env x, foldedSetIterable iter1 env x = pure x := by intro _ _; rfl) :
    DR X (.ListComp elt [⟨tg, iter, ifs, 0⟩, ⟨tg1, iter1, ifs1, 0⟩] scope pos) (fLc2 vs vs1 it g tt it1 g1 tt1 te) := by
  subst hv
  exact pe_imp (pe_lc2 hc hN hi ok hv1 hg ht hi1 hg1 ht1 he hs hs1) (tLc2_of hj hj1 hv1)
theorem ds_setLc2 (i : Nat) (vs1 : List Nat) {y : Str} {py spos : Pos} (hN : X.N.Nodup) (hsw : swapsWith (.ListComp elt [⟨tg, iter, ifs, 0⟩, ⟨tg1, iter1, ifs1, 0⟩] scope pos) (some (.Name y py)) spos.line X.env = pure true) (hi : DI X tg iter it) (ok : BlkOk X.N X.env.scope scope own)
    (hg : ∀ (s : Shared) (H : Hp) (C : Addr) (cl : List (Str × Addr)) (fp : List Addr), DG (X.blk s H scope (compEnvC scope cl C X.env) fp) tg js g)
    (ht : ∀ (s : Shared) (H : Hp) (C : Addr) (cl : List (Str × Addr)) (fp : List Addr), DTs (X.blk s H scope (compEnvC scope cl C X.env) fp) ifs tt)
    (hi1 : ∀ (s : Shared) (H : Hp) (C : Addr) (cl : List (Str × Addr)) (fp : List Addr), DI (X.blk s H scope (compEnvC scope cl C X.env) fp) tg1 iter1 it1)
    (hg1 : ∀ (s : Shared) (H : Hp) (C : Addr) (cl : List (Str × Addr)) (fp : List Addr), DG (X.blk s H scope (compEnvC scope cl C X.env) fp) tg1 js1 g1)
    (ht1 : ∀ (s : Shared) (H : Hp) (C : Addr) (cl : List (Str × Addr)) (fp : List Addr), DTs (X.blk s H scope (compEnvC scope cl C X.env) fp) ifs1 tt1)
    (he : ∀ (s : Shared) (H : Hp) (C : Addr) (cl : List (Str × Addr)) (fp : List Addr), DE (X.blk s H scope (compEnvC scope cl C X.env) fp) elt te)
    (hy : X.N[i]? = some y := by rfl) (hyl : X.env.scope.names.lookup y = some .local := by rfl)
    (hc : X.calm = true := by rfl) (hv : own.map (·.2) = vs := by rfl) (hj : ∀ j ∈ js, j ∈ vs := by decide) (hj1 : ∀ j ∈ js1, j ∈ vs1 := by decide) (hv1 : ∀ j ∈ vs1, j ∈ own.map (·.2) := by decide) (hs : ∀ x, foldedSetIterable iter X.env x = pure x := by intro _; rfl) (hs1 : ∀ env x, foldedSetIterable iter1 env x = pure x := by intro _ _; rfl) :
    DS X (.Assign [.Name y py] (.ListComp elt [⟨tg, iter, ifs, 0⟩, ⟨tg1, iter1, ifs1, 0⟩] scope pos) spos) (fSet i (fLc2 vs vs1 it g tt it1 g1 tt1 te)) := by
  subst hv
  refine ps_imp (ps_setLc2 hc hN hy hyl hsw hi ok hv1 hg ht hi1 hg1 ht1 he hs hs1) fun D σ H ⟨Z, B, ρ, o, ok, e, q⟩ => ?_
  unfold fSet at e
  obtain ⟨⟨s, ρ1⟩, e1, e2⟩ := Option.map_eq_some_iff.mp e
  cases e2
  exact tLc2_of hj hj1 hv1 σ H _ ⟨Z, B, ρ, s, ρ1, ok, e1, fun B1 H1 v s1 ok1 r1 => q B1 s1 _ H1 (ok1.setR i r1)⟩
end
@[simp] theorem fLc2_eq (vs vs1 : List Nat) (it : FI) (g : FG) (tt : FT) (it1 : FI) (g1 : FG) (tt1 : FT) (te : FE) (ρ : En) : fLc2 vs vs1 it g tt it1 g1 tt1 te ρ = (it ρ).bind fun p => (lcL2 vs vs1 g tt it1 g1 tt1 te p.1 (wipeE p.2 vs)).bind fun r => if r.1.length ≤ 16000000 then some (.ow r.1, wipeE r.2 vs) else none := rfl
@[simp] theorem lcL2_nil (vs vs1 : List Nat) (g : FG) (tt : FT) (it1 : FI) (g1 : FG) (tt1 : FT) (te : FE) (ρ : En) : lcL2 vs vs1 g tt it1 g1 tt1 te [] ρ = some ([], ρ) := rfl
theorem lcL2_cons (vs vs1 : List Nat) (g : FG) (tt : FT) (it1 : FI) (g1 : FG) (tt1 : FT) (te : FE) (d : PyData) (ds : List PyData) (ρ : En) : lcL2 vs vs1 g tt it1 g1 tt1 te (d :: ds) ρ = (g d ρ).bind fun ρ1 => (tt ρ1).bind fun p => if p.1 = true then (it1 p.2).bind fun q => (lcL vs1 g1 tt1 te q.1 (wipeE q.2 vs1)).bind fun r => (lcL2 vs vs1 g tt it1 g1 tt1 te ds (wipeE r.2 vs)).map fun t => (r.1 ++ t.1, t.2) else lcL2 vs vs1 g tt it1 g1 tt1 te ds (wipeE p.2 vs) := rfl
/-- two fors without tests whose items are known one by one -/
theorem lcL2_map {α : Type} {vs vs1 : List Nat} {g : FG} {it1 : FI} {g1 : FG} {tt1 : FT} {te : FE} {ρ : En} (toD : α → PyData) (fn : α → List PyData) : ∀ xs : List α, (∀ x ∈ xs, ∃ ρ1 ds ρ2 ρ3, g (toD x) ρ = some ρ1 ∧ it1 ρ1 = some (ds, ρ2) ∧ lcL vs1 g1 tt1 te ds (wipeE ρ2 vs1) = some (fn x, ρ3) ∧ wipeE ρ3 vs = ρ) → lcL2 vs vs1 g fYes it1 g1 tt1 te (xs.map toD) ρ = some (xs.flatMap fn, ρ)
  | [], _ => rfl
  | x :: xs, h => by
    obtain ⟨ρ1, ds, ρ2, ρ3, h1, h2, h3, h4⟩ := h x List.mem_cons_self
    have ih := lcL2_map (vs := vs) (vs1 := vs1) (g := g) (it1 := it1) (g1 := g1) (tt1 := tt1) (te := te) (ρ := ρ) toD fn xs fun y hy => h y (List.mem_cons_of_mem _ hy)
    rw [List.map_cons, lcL2_cons, h1, Option.bind_some, fYes_eq, Option.bind_some, if_pos rfl]
    show (it1 ρ1).bind _ = _
    rw [h2, Option.bind_some]
    show (lcL vs1 g1 tt1 te ds (wipeE ρ2 vs1)).bind _ = _
    rw [h3, Option.bind_some]
    show (lcL2 vs vs1 g fYes it1 g1 tt1 te (xs.map toD) (wipeE ρ3 vs)).map _ = _
    rw [h4, ih]
    rfl

/-! GDict: dicts of the frame's own. -/
/-! ### keys and pure dicts -/
def keyD : PyData → Option Key
  | .int i => some (.inl i)
  | .str x => some (.inr x)
  | _ => none
def keysD : List PyData → Option (List Key)
  | [] => some []
  | d :: ds => (keyD d).bind fun k => (keysD ds).map (k :: ·)
def tkeyD : PyData → Option (List Key)
  | .tuple ds => keysD ds
  | _ => none
section
variable {κ : Type} [DecidableEq κ]
def valD : List (κ × PyData) → κ → Option PyData
  | [], _ => none
  | p :: r, k => if p.1 = k then some p.2 else valD r k
def putD : List (κ × PyData) → κ → PyData → List (κ × PyData)
  | [], k, d => [(k, d)]
  | p :: r, k, d => if p.1 = k then (p.1, d) :: r.map (fun q => if q.1 = k then (q.1, d) else q) else p :: putD r k d
theorem KvR.length {B : Hp} : ∀ {l : List (κ × V)} {m : List (κ × PyData)}, KvR B l m → l.length = m.length
  | _, _, .nil => rfl
  | _, _, .cons _ t => by rw [List.length_cons, List.length_cons, KvR.length t]
theorem KvR.val {B : Hp} (k : κ) : ∀ {l : List (κ × V)} {m : List (κ × PyData)}, KvR B l m → (valV l k = none ∧ valD m k = none) ∨ ∃ v d, valV l k = some v ∧ valD m k = some d ∧ Dr B v d
  | _, _, .nil => .inl ⟨rfl, rfl⟩
  | _, _, .cons (k := k') (v := v) (d := d) (l := l) (m := m) h t => by
    by_cases e : k' = k
    · exact .inr ⟨v, d, valV_pos (p := (k', v)) (r := l) e, by show (if k' = k then some d else valD m k) = _; rw [if_pos e], h⟩
    · rw [valV_neg (p := (k', v)) (r := l) e]
      show (_ ∧ (if k' = k then some d else valD m k) = none) ∨ ∃ v' d', _ ∧ (if k' = k then some d else valD m k) = some d' ∧ _
      rw [if_neg e]
      exact KvR.val k t
theorem KvR.mapd {B : Hp} {v : V} {d : PyData} (hd : Dr B v d) (k : κ) : ∀ {l : List (κ × V)} {m : List (κ × PyData)}, KvR B l m → KvR B (l.map fun q => if q.1 = k then (q.1, v) else q) (m.map fun q => if q.1 = k then (q.1, d) else q)
  | _, _, .nil => .nil
  | _, _, .cons (k := k') h t => by
    rw [List.map_cons, List.map_cons]
    by_cases e : k' = k
    · rw [if_pos e, if_pos e]
      exact .cons hd (KvR.mapd hd k t)
    · rw [if_neg e, if_neg e]
      exact .cons h (KvR.mapd hd k t)
theorem putK_cons_eq {k' k : κ} {w v : V} {l : List (κ × V)} : putK ((k', w) :: l) k v = if k' = k then (k', v) :: l.map (fun q => if q.1 = k then (q.1, v) else q) else (k', w) :: putK l k v := by
  unfold putK
  by_cases e : k' = k
  · simp [e]
  · simp only [List.any_cons, e, decide_false, Bool.false_or, if_false, List.map_cons]
    split <;> rfl
theorem KvR.put {B : Hp} {v : V} {d : PyData} (hd : Dr B v d) (k : κ) : ∀ {l : List (κ × V)} {m : List (κ × PyData)}, KvR B l m → KvR B (putK l k v) (putD m k d)
  | _, _, .nil => .cons hd .nil
  | _, _, .cons (k := k') (v := w) (d := e) (l := l) (m := m) h t => by
    rw [putK_cons_eq]
    show KvR B _ (if k' = k then (k', d) :: m.map (fun q => if q.1 = k then (q.1, d) else q) else (k', e) :: putD m k d)
    by_cases q : k' = k
    · rw [if_pos q, if_pos q]
      exact .cons hd (KvR.mapd hd k t)
    · rw [if_neg q, if_neg q]
      exact .cons h (KvR.put hd k t)
end
theorem dr_key {B : Hp} {v : V} {d : PyData} {k : Key} (h : Dr B v d) (e : keyD d = some k) : v = kV k := by
  cases h <;> cases e <;> rfl
theorem drAll_keys {B : Hp} : ∀ {vs : List V} {ds : List PyData} {ks : List Key}, DrAll B vs ds → keysD ds = some ks → vs = ks.map kV
  | _, _, _, .nil, e => by cases e; rfl
  | _, _, _, .cons h t, e => by
    obtain ⟨k, e1, e2⟩ := Option.bind_eq_some_iff.mp e
    obtain ⟨ks, e3, e4⟩ := Option.map_eq_some_iff.mp e2
    subst e4
    rw [dr_key h e1, drAll_keys t e3]
    rfl
theorem dr_tkey {B : Hp} {v : V} {d : PyData} {ks : List Key} (h : Dr B v d) (e : tkeyD d = some ks) : ∃ b, v = .ref b ∧ B b = some (.tup (ks.map kV)) := by
  cases h with
  | tup h1 h2 =>
    have := drAll_keys h2 e
    subst this
    exact ⟨_, rfl, h1⟩
  | _ => cases e
/-! ### a slot's dict -/
/-- what the dict in a slot holds at a key -/
def getS : Option Sl → PyData → Option (Option PyData)
  | some (.ok m), d => (keyD d).map (valD m)
  | some (.lk m), d => (keyD d).map (valD m)
  | some (.ot m), d => (tkeyD d).map (valD m)
  | some (.lt m), d => (tkeyD d).map (valD m)
  | _, _ => none
/-- the slot behind a store -/
def putS : Option Sl → PyData → PyData → Option Sl
  | some (.ok m), k, d => (keyD k).bind fun k => if m.length < 16777216 then some (.ok (putD m k d)) else none
  | some (.ot m), k, d => (tkeyD k).bind fun k => if m.length < 16777216 then some (.ot (putD m k d)) else none
  | _, _, _ => none
def isD : Option Sl → Bool
  | some (.ok _) => true
  | some (.lk _) => true
  | some (.ot _) => true
  | some (.lt _) => true
  | _ => false
def OptR (B : Hp) (o : Option V) (r : Option PyData) : Prop := (o = none ∧ r = none) ∨ ∃ v d, o = some v ∧ r = some d ∧ Dr B v d
theorem KvR.opt {κ : Type} [DecidableEq κ] {B : Hp} {l : List (κ × V)} {m : List (κ × PyData)} (h : KvR B l m) (k : κ) : OptR B (valV l k) (valD m k) := h.val k
section
variable {Z : Zn} {B : Hp} {σ : L2.St} {H : Hp} {ρ : En} {i : Nat}
theorem getS_isD {s : Option Sl} {d : PyData} {r : Option PyData} (h : getS s d = some r) : isD s = true := by
  cases s with
  | none => cases h
  | some s => cases s <;> first | rfl | cases h
theorem putS_own {k d : PyData} {r : Sl} (h : putS ρ[i]? k d = some r) : ∃ s, ρ[i]? = some s ∧ isOwn s = true := by
  cases e : ρ[i]? with
  | none =>
    rw [e] at h
    cases h
  | some s =>
    rw [e] at h
    cases s <;> first | exact ⟨_, rfl, rfl⟩ | cases h
theorem isD_at' (ok : EnvOk Z B σ H ρ) (h : isD ρ[i]? = true) : ∃ a, σ[i]? = some (some (.ref a)) ∧ IsD H a := by
  cases e : ρ[i]? with
  | none =>
    rw [e] at h
    cases h
  | some s =>
    rw [e] at h
    cases s with
    | ok m =>
      obtain ⟨a, o, q1, q2, q3, q4, q5⟩ := ok.ow i _ e rfl
      cases o <;> first | exact q5.elim | exact ⟨a, q1, .inl ⟨_, .inl q2⟩⟩
    | ot m =>
      obtain ⟨a, o, q1, q2, q3, q4, q5⟩ := ok.ow i _ e rfl
      cases o <;> first | exact q5.elim | exact ⟨a, q1, .inr ⟨_, .inl q2⟩⟩
    | lk m =>
      obtain ⟨a, d, l, q1, q2, _⟩ := ok.ad i _ e
      exact ⟨a, q1, .inl ⟨_, .inr ⟨_, ok.le _ _ q2⟩⟩⟩
    | lt m =>
      obtain ⟨a, d, l, q1, q2, _⟩ := ok.ad i _ e
      exact ⟨a, q1, .inr ⟨_, .inr ⟨_, ok.le _ _ q2⟩⟩⟩
    | _ => cases h
theorem get_at (ok : EnvOk Z B σ H ρ) {v : V} {d : PyData} {r : Option PyData} (dv : Dr B v d) (h : getS ρ[i]? d = some r) : ∃ a o, σ[i]? = some (some (.ref a)) ∧ DGet H a v o ∧ OptR B o r := by
  cases e : ρ[i]? with
  | none =>
    rw [e] at h
    cases h
  | some s =>
    rw [e] at h
    cases s with
    | ok m =>
      obtain ⟨a, o, q1, q2, q3, q4, q5⟩ := ok.ow i _ e rfl
      obtain ⟨k, e1, e2⟩ := Option.map_eq_some_iff.mp h
      subst e2
      cases o with
      | dK l =>
        rw [dr_key dv e1]
        exact ⟨a, _, q1, DGet.k q2, KvR.opt q5 k⟩
      | _ => exact q5.elim
    | lk m =>
      obtain ⟨a, od, l, q1, q2, q6⟩ := ok.ad i _ e
      obtain ⟨k, e1, e2⟩ := Option.map_eq_some_iff.mp h
      subst e2
      rw [dr_key dv e1]
      exact ⟨a, _, q1, .inl ⟨l, k, .inr ⟨_, ok.le _ _ q2⟩, rfl, rfl⟩, KvR.opt q6 k⟩
    | ot m =>
      obtain ⟨a, o, q1, q2, q3, q4, q5⟩ := ok.ow i _ e rfl
      obtain ⟨k, e1, e2⟩ := Option.map_eq_some_iff.mp h
      subst e2
      cases o with
      | dT l =>
        obtain ⟨b, rfl, hb⟩ := dr_tkey dv e1
        exact ⟨a, _, q1, DGet.t q2 (ok.le _ _ hb), KvR.opt q5 k⟩
      | _ => exact q5.elim
    | lt m =>
      obtain ⟨a, od, l, q1, q2, q6⟩ := ok.ad i _ e
      obtain ⟨k, e1, e2⟩ := Option.map_eq_some_iff.mp h
      subst e2
      obtain ⟨b, rfl, hb⟩ := dr_tkey dv e1
      exact ⟨a, _, q1, .inr ⟨l, k, b, .inr ⟨_, ok.le _ _ q2⟩, rfl, ok.le _ _ hb, rfl⟩, KvR.opt q6 k⟩
    | _ => cases h
theorem put_at (ok : EnvOk Z B σ H ρ) {v y : V} {d k : PyData} {r : Sl} (dk : Dr B y k) (dv : Dr B v d) (h : putS ρ[i]? k d = some r) : ∃ a H', σ[i]? = some (some (.ref a)) ∧ DPut H a y v H' ∧ EnvOk Z B σ H' (ρ.set i r) := by
  obtain ⟨s, h1, h2⟩ := putS_own h
  obtain ⟨a, o, q1, q2, q3, q4, q5⟩ := ok.ow i s h1 h2
  rw [h1] at h
  cases s with
  | ok m =>
    obtain ⟨k', e1, e2⟩ := Option.bind_eq_some_iff.mp h
    split at e2
    · rename_i hl
      cases e2
      cases o with
      | dK l =>
        rw [dr_key dk e1]
        exact ⟨a, _, q1, DPut.k q2 (by rw [KvR.length q5]; exact hl), ok.mut h1 h2 q1 (s' := .ok _) (o' := .dK _) (KvR.put dv k' q5)⟩
      | _ => exact q5.elim
    · cases e2
  | ot m =>
    obtain ⟨k', e1, e2⟩ := Option.bind_eq_some_iff.mp h
    split at e2
    · rename_i hl
      cases e2
      cases o with
      | dT l =>
        obtain ⟨b, rfl, hb⟩ := dr_tkey dk e1
        exact ⟨a, _, q1, DPut.t q2 (ok.le _ _ hb) (by rw [KvR.length q5]; exact hl), ok.mut h1 h2 q1 (s' := .ot _) (o' := .dT _) (KvR.put dv k' q5)⟩
      | _ => exact q5.elim
    · cases e2
  | _ => cases h
end
/-! ### rules -/
def fDGet (i : Nat) (g : FE) : FE := fun ρ => (g ρ).bind fun p => if isD ρ[i]? = true then (getS p.2[i]? p.1).bind fun r => r.map fun d => (d, p.2) else none
def fDIn (i : Nat) (g : FE) : FE := fun ρ => (g ρ).bind fun p => (getS p.2[i]? p.1).map fun r => (.bool r.isSome, p.2)
def fDNotIn (i : Nat) (g : FE) : FE := fun ρ => (g ρ).bind fun p => (getS p.2[i]? p.1).map fun r => (.bool (!r.isSome), p.2)
def fDGet2 (i : Nat) (g h : FE) : FE := fun ρ => if isD ρ[i]? = true then (g ρ).bind fun p => (h p.2).bind fun q => (getS q.2[i]? p.1).map fun r => (r.getD q.1, q.2) else none
def fDPut (i : Nat) (k e : FE) : FS := fun ρ => (e ρ).bind fun p => if isD p.2[i]? = true then (k p.2).bind fun q => (putS q.2[i]? q.1 p.1).map fun s => .nx (q.2.set i s) else none
def fDNewK : FR := fun ρ => some (.ok [], ρ)
def fDNewT : FR := fun ρ => some (.ot [], ρ)
theorem ref_same {σ : L2.St} {i : Nat} {a b : Addr} (h : σ[i]? = some (some (V.ref a))) (h' : σ[i]? = some (some (V.ref b))) : a = b := by
  rw [h] at h'
  exact V.ref.inj (Option.some.inj (Option.some.inj h'))
theorem isSome_opt {B : Hp} {o : Option V} {r : Option PyData} (h : OptR B o r) : o.isSome = r.isSome := by
  rcases h with ⟨rfl, rfl⟩ | ⟨v, d, rfl, rfl, _⟩ <;> rfl
section
variable {X : Cx} {k : Nat} {e b : Expr} {f g : FE} {pos px apos cpos : Pos} {x : Str}
theorem u1 (hr : Room k X.A) : X.A.units + 1 < cLine := by have := hr.un; omega
theorem de_dget (i : Nat) (hr : Room k X.A) (hb : DE X b g) (hN : X.N[i]? = some x := by rfl) (hv : Vis X.env.scope x := by first | exact Or.inl rfl | exact Or.inr (Or.inl rfl) | exact Or.inr (Or.inr rfl)) (hd : (x == ("__debug__" : Str)) = false := by decide)
    (hcd : (x == ("__classdict__" : Str)) = false := by decide) (hs : NoSl b := by exact fun _ _ => rfl) : DE X (.Subscript (.Name x px) b pos) (fDGet i g) := pe_imp (pe_dget (u1 hr) (pe_var hN hv hd hcd) hb hs) fun σ H Q ⟨Z, B, ρ, d, ρ', ok, e, q⟩ => by
  unfold fDGet at e
  obtain ⟨⟨d1, ρ1⟩, e1, e2⟩ := Option.bind_eq_some_iff.mp e
  split at e2
  · rename_i h0
    obtain ⟨r, e3, e4⟩ := Option.bind_eq_some_iff.mp e2
    obtain ⟨z, e5, e6⟩ := Option.map_eq_some_iff.mp e4
    cases e6
    subst e5
    obtain ⟨a0, g1, _⟩ := isD_at' ok h0
    refine ⟨.ref a0, g1, Z, B, ρ, d1, _, ok, e1, fun B1 H1 y s1 ok1 dy => ?_⟩
    obtain ⟨a, o, k1, k2, k3⟩ := get_at ok1 dy e3
    have := ref_same g1 k1
    subst this
    rcases k3 with ⟨_, z⟩ | ⟨v, d', rfl, z, dv⟩
    · cases z
    · cases z
      exact ⟨a0, v, rfl, k2, q B1 H1 v s1 ok1 dv⟩
  · cases e2
theorem de_din (i : Nat) (hr : Room k X.A) (hb : DE X b g) (hN : X.N[i]? = some x := by rfl) (hv : Vis X.env.scope x := by first | exact Or.inl rfl | exact Or.inr (Or.inl rfl) | exact Or.inr (Or.inr rfl)) (hd : (x == ("__debug__" : Str)) = false := by decide)
    (hcd : (x == ("__classdict__" : Str)) = false := by decide) (hm : behindInMarks .In (.Name x px) = false := by with_unfolding_all rfl) : DE X (.Compare b [.In] [.Name x px] pos) (fDIn i g) := pe_imp (pe_cmp (pc_din (u1 hr) hb (pe_var hN hv hd hcd)) hm) fun σ H Q ⟨Z, B, ρ, d, ρ', ok, e, q⟩ => by
  unfold fDIn at e
  obtain ⟨⟨d1, ρ1⟩, e1, e2⟩ := Option.bind_eq_some_iff.mp e
  obtain ⟨r, e3, e4⟩ := Option.map_eq_some_iff.mp e2
  cases e4
  refine ⟨Z, B, ρ, d1, ρ1, ok, e1, fun B1 H1 y s1 ok1 dy => ?_⟩
  obtain ⟨a, o, k1, k2, k3⟩ := get_at ok1 dy e3
  refine ⟨.ref a, k1, a, o, rfl, k2, ?_⟩
  rw [isSome_opt k3]
  exact q B1 H1 _ s1 ok1 (.bl _)
theorem de_dnotin (i : Nat) (hr : Room k X.A) (hb : DE X b g) (hN : X.N[i]? = some x := by rfl) (hv : Vis X.env.scope x := by first | exact Or.inl rfl | exact Or.inr (Or.inl rfl) | exact Or.inr (Or.inr rfl)) (hd : (x == ("__debug__" : Str)) = false := by decide)
    (hcd : (x == ("__classdict__" : Str)) = false := by decide) (hm : behindInMarks .NotIn (.Name x px) = false := by with_unfolding_all rfl) : DE X (.Compare b [.NotIn] [.Name x px] pos) (fDNotIn i g) := pe_imp (pe_cmp (pc_dnotin (u1 hr) hb (pe_var hN hv hd hcd)) hm) fun σ H Q ⟨Z, B, ρ, d, ρ', ok, e, q⟩ => by
  unfold fDNotIn at e
  obtain ⟨⟨d1, ρ1⟩, e1, e2⟩ := Option.bind_eq_some_iff.mp e
  obtain ⟨r, e3, e4⟩ := Option.map_eq_some_iff.mp e2
  cases e4
  refine ⟨Z, B, ρ, d1, ρ1, ok, e1, fun B1 H1 y s1 ok1 dy => ?_⟩
  obtain ⟨a, o, k1, k2, k3⟩ := get_at ok1 dy e3
  refine ⟨.ref a, k1, a, o, rfl, k2, ?_⟩
  rw [isSome_opt k3]
  exact q B1 H1 _ s1 ok1 (.bl _)
theorem dt_din (i : Nat) (hr : Room k X.A) (hb : DE X b g) (hN : X.N[i]? = some x := by rfl) (hv : Vis X.env.scope x := by first | exact Or.inl rfl | exact Or.inr (Or.inl rfl) | exact Or.inr (Or.inr rfl)) (hd : (x == ("__debug__" : Str)) = false := by decide)
    (hcd : (x == ("__classdict__" : Str)) = false := by decide) (hm : behindInMarks .In (.Name x px) = false := by with_unfolding_all rfl) : DT X (.Compare b [.In] [.Name x px] pos) (fB (fDIn i g)) := pt_imp (pt_cmp (pc_din (u1 hr) hb (pe_var hN hv hd hcd)) hm) fun σ H Q ⟨Z, B, ρ, d, ρ', ok, e, q⟩ => by
  unfold fB fDIn at e
  obtain ⟨⟨z, ρ3⟩, e0, e9⟩ := Option.bind_eq_some_iff.mp e
  obtain ⟨⟨d1, ρ1⟩, e1, e2⟩ := Option.bind_eq_some_iff.mp e0
  obtain ⟨r, e3, e4⟩ := Option.map_eq_some_iff.mp e2
  cases e4
  cases e9
  refine ⟨Z, B, ρ, d1, ρ1, ok, e1, fun B1 H1 y s1 ok1 dy => ?_⟩
  obtain ⟨a, o, k1, k2, k3⟩ := get_at ok1 dy e3
  refine ⟨.ref a, k1, a, o, rfl, k2, _, rfl, ?_⟩
  rw [isSome_opt k3]
  exact q B1 H1 s1 ok1
theorem dt_dnotin (i : Nat) (hr : Room k X.A) (hb : DE X b g) (hN : X.N[i]? = some x := by rfl) (hv : Vis X.env.scope x := by first | exact Or.inl rfl | exact Or.inr (Or.inl rfl) | exact Or.inr (Or.inr rfl)) (hd : (x == ("__debug__" : Str)) = false := by decide)
    (hcd : (x == ("__classdict__" : Str)) = false := by decide) (hm : behindInMarks .NotIn (.Name x px) = false := by with_unfolding_all rfl) : DT X (.Compare b [.NotIn] [.Name x px] pos) (fB (fDNotIn i g)) := pt_imp (pt_cmp (pc_dnotin (u1 hr) hb (pe_var hN hv hd hcd)) hm) fun σ H Q ⟨Z, B, ρ, d, ρ', ok, e, q⟩ => by
  unfold fB fDNotIn at e
  obtain ⟨⟨z, ρ3⟩, e0, e9⟩ := Option.bind_eq_some_iff.mp e
  obtain ⟨⟨d1, ρ1⟩, e1, e2⟩ := Option.bind_eq_some_iff.mp e0
  obtain ⟨r, e3, e4⟩ := Option.map_eq_some_iff.mp e2
  cases e4
  cases e9
  refine ⟨Z, B, ρ, d1, ρ1, ok, e1, fun B1 H1 y s1 ok1 dy => ?_⟩
  obtain ⟨a, o, k1, k2, k3⟩ := get_at ok1 dy e3
  refine ⟨.ref a, k1, a, o, rfl, k2, _, rfl, ?_⟩
  rw [isSome_opt k3]
  exact q B1 H1 s1 ok1
theorem de_dget2 (i : Nat) (hr : Room k X.A) (hb : DE X b g) (he : DE X e f) (m : M2 X (.Name x px) "get" apos b e cpos) (hN : X.N[i]? = some x := by rfl) (hv : Vis X.env.scope x := by first | exact Or.inl rfl | exact Or.inr (Or.inl rfl) | exact Or.inr (Or.inr rfl)) (hd : (x == ("__debug__" : Str)) = false := by decide)
    (hcd : (x == ("__classdict__" : Str)) = false := by decide) : DE X (.Call (.Attribute (.Name x px) "get" apos) [b, e] [] cpos) (fDGet2 i g f) := pe_imp (pe_dget2 (u1 hr) (pe_var hN hv hd hcd) hb he m) fun σ H Q ⟨Z, B, ρ, d, ρ', ok, e, q⟩ => by
  unfold fDGet2 at e
  split at e
  · rename_i h0
    obtain ⟨⟨d1, ρ1⟩, e1, e2⟩ := Option.bind_eq_some_iff.mp e
    obtain ⟨⟨d2, ρ2⟩, e3, e4⟩ := Option.bind_eq_some_iff.mp e2
    obtain ⟨r, e5, e6⟩ := Option.map_eq_some_iff.mp e4
    cases e6
    obtain ⟨a0, g1, g2⟩ := isD_at' ok h0
    refine ⟨.ref a0, g1, a0, rfl, g2, Z, B, ρ, d1, ρ1, ok, e1, fun B1 H1 y s1 ok1 dy => ⟨Z, B1, ρ1, d2, ρ2, ok1, e3, fun B2 H2 w s2 ok2 dw => ?_⟩⟩
    obtain ⟨a, o, k1, k2, k3⟩ := get_at ok2 (dy.mono s2) e5
    have := ref_same g1 k1
    subst this
    refine ⟨o, k2, ?_⟩
    rcases k3 with ⟨rfl, rfl⟩ | ⟨v, d', rfl, rfl, dv⟩
    · exact q B2 H2 _ (s1.trans s2) ok2 dw
    · exact q B2 H2 _ (s1.trans s2) ok2 dv
  · cases e
theorem ds_dput (i : Nat) {spos : Pos} (hr : Room k X.A) (hb : DE X b g) (he : DE X e f) (hN : X.N[i]? = some x := by rfl) (hv : Vis X.env.scope x := by first | exact Or.inl rfl | exact Or.inr (Or.inl rfl) | exact Or.inr (Or.inr rfl)) (hd : (x == ("__debug__" : Str)) = false := by decide)
    (hcd : (x == ("__classdict__" : Str)) = false := by decide) (hs : swapsWith e (some (.Subscript (.Name x px) b spos)) pos.line X.env = pure false := by rfl) : DS X (.Assign [.Subscript (.Name x px) b spos] e pos) (fDPut i g f) := ps_imp (ps_dput (u1 hr) (pe_var hN hv hd hcd) hb he hs) fun D σ H ⟨Z, B, ρ, o, ok, e, q⟩ => by
  unfold fDPut at e
  obtain ⟨⟨d1, ρ1⟩, e1, e2⟩ := Option.bind_eq_some_iff.mp e
  split at e2
  · rename_i h0
    obtain ⟨⟨d2, ρ2⟩, e3, e4⟩ := Option.bind_eq_some_iff.mp e2
    obtain ⟨r, e5, e6⟩ := Option.map_eq_some_iff.mp e4
    cases e6
    refine ⟨Z, B, ρ, d1, ρ1, ok, e1, fun B1 H1 v s1 ok1 dv => ?_⟩
    obtain ⟨a0, g1, g2⟩ := isD_at' ok1 h0
    refine ⟨.ref a0, g1, Z, B1, ρ1, d2, ρ2, ok1, e3, fun B2 H2 y s2 ok2 dy => ?_⟩
    obtain ⟨a, H', k1, k2, k3⟩ := put_at ok2 dy (dv.mono s2) e5
    have := ref_same g1 k1
    subst this
    exact ⟨a0, H', rfl, k2, q B2 (s1.trans s2) σ H' k3⟩
  · cases e2
theorem own_dk {Z : Zn} {B : Hp} {σ : L2.St} {H : Hp} {ρ : En} {p : Addr} (ok : EnvOk Z B σ H ρ) (hp : H p = none) {l : List (Key × V)} {m : List (Key × PyData)} (r : KvR B l m) : EnvOk Z B σ (upd H p (.dK l)) ρ ∧ RepR Z B (upd H p (.dK l)) (NotOwn σ ρ) (.ref p) (.ok m) :=
  ⟨ok.junk hp, .inr ⟨p, .dK l, rfl, upd_same, ok.le.free hp, ok.lz.free hp, NotOwn.new ok hp, r, rfl⟩⟩
theorem dr_dnewK : DR X (.Dict [] [] pos) fDNewK := pe_imp pe_dnewK fun σ H Q ⟨Z, B, ρ, s, ρ', ok, e, q⟩ => by
  cases e
  intro p hp
  obtain ⟨ok4, r4⟩ := own_dk ok hp (l := []) (m := []) .nil
  exact q B _ _ (Same.refl B) ok4 r4
theorem dr_dnewT : DR X (.Dict [] [] pos) fDNewT := pe_imp pe_dnewT fun σ H Q ⟨Z, B, ρ, s, ρ', ok, e, q⟩ => by
  cases e
  intro p hp
  exact q B _ _ (Same.refl B) (ok.junk hp) (.inr ⟨p, .dT [], rfl, upd_same, ok.le.free hp, ok.lz.free hp, NotOwn.new ok hp, .nil, rfl⟩)
end

/-! GTupR: lists pinned while a loop reads them; defs that tell a fresh list and a datum. -/
def nopi (ρ : En) : Bool := ρ.all fun s => match s with
  | .pi => false
  | _ => true
theorem nopi_at {ρ : En} {i : Nat} (h : nopi ρ = true) : ρ[i]? ≠ some .pi := fun e => by
  have := List.all_eq_true.mp h _ (List.mem_of_getElem? e)
  cases this
section
variable {Z : Zn} {B : Hp} {σ : L2.St} {H : Hp} {ρ : En} {i : Nat}
theorem EnvOk.setAd (ok : EnvOk Z B σ H ρ) (i : Nat) {s : Sl} (hs : isOwn s = false) (h1 : ∀ d, s ≠ .sh d) (h2 : ∀ xs, s ≠ .io xs) (ha : AdR B Z.pin σ[i]? s) : EnvOk Z B σ H (ρ.set i s) := by
  have f := ok.forget i
  refine ⟨f.le, f.lz, f.dj, by rw [List.length_set]; exact ok.len, fun j d e => ?_, fun j t e1 e2 => ?_, fun j xs e => ?_, fun j t e => ?_, fun j k t u a e1 e2 e3 e4 e5 e6 => ?_⟩
  · rcases getElem?_set_cases e with ⟨rfl, z2, z3⟩ | ⟨z1, z2⟩
    · exact (h1 d z2.symm).elim
    · exact ok.sh j d z2
  · rcases getElem?_set_cases e1 with ⟨rfl, z2, z3⟩ | ⟨z1, z2⟩
    · rw [z2, hs] at e2
      cases e2
    · exact ok.ow j t z2 e2
  · rcases getElem?_set_cases e with ⟨rfl, z2, z3⟩ | ⟨z1, z2⟩
    · exact (h2 xs z2.symm).elim
    · exact ok.io j xs z2
  · rcases getElem?_set_cases e with ⟨rfl, z2, z3⟩ | ⟨z1, z2⟩
    · rw [z2]
      exact ha
    · exact ok.ad j t z2
  · rcases getElem?_set_cases e1 with ⟨rfl, z2, z3⟩ | ⟨z1, z2⟩
    · rw [z2, hs] at e2
      cases e2
    · rcases getElem?_set_cases e3 with ⟨rfl, y2, y3⟩ | ⟨y1, y2⟩
      · rw [y2, hs] at e4
        cases e4
      · exact ok.inj j k t u a z2 e2 y2 e4 e5 e6
theorem EnvOk.repin (ok : EnvOk Z B σ H ρ) (h : nopi ρ = true) (p : Addr) : EnvOk ⟨Z.fr, Z.bag, p⟩ B σ H ρ := by
  refine ⟨ok.le, ok.lz, ok.dj, ok.len, ok.sh, ok.ow, ok.io, fun j s e => ?_, ok.inj⟩
  have := ok.ad j s e
  cases s with
  | pi => exact (nopi_at h e).elim
  | _ => exact this
theorem nopi_set {s : Sl} (h : nopi ρ = true) (hs : s ≠ .pi) : nopi (ρ.set i s) = true := by
  refine List.all_eq_true.mpr fun x hx => ?_
  rcases List.mem_or_eq_of_mem_set hx with h1 | h1
  · exact List.all_eq_true.mp h x h1
  · subst h1
    cases x <;> first | rfl | exact (hs rfl).elim
theorem EnvOk.pinL (ok : EnvOk Z B σ H ρ) {xs : List PyData} (h : ρ[i]? = some (.ow xs)) (np : nopi ρ = true) : ∃ a vs, σ[i]? = some (some (.ref a)) ∧ H a = some (.lst vs) ∧ Z.fr a = none ∧ DrAll B vs xs ∧ EnvOk ⟨upd Z.fr a (.lst vs), Z.bag, a⟩ B σ H (ρ.set i .pi) := by
  obtain ⟨a, o, q1, q2, q3, q4, q5⟩ := ok.ow i _ h rfl
  cases o with
  | lst vs =>
    refine ⟨a, vs, q1, q2, q4, q5, ?_⟩
    have f1 := (ok.forget i).repin (nopi_set np (fun z => nomatch z)) a
    have hn : NotOwn σ (ρ.set i .un) a := fun j s e1 e2 e3 => by
      rcases getElem?_set_cases e1 with ⟨rfl, z2, z3⟩ | ⟨z1, z2⟩
      · subst z2
        cases e2
      · exact z1 (ok.inj j i s _ a z2 e2 h rfl e3 q1)
    have f2 := f1.keep q2 q3 hn
    have f3 := EnvOk.setAd f2 i (s := .pi) rfl (fun d z => nomatch z) (fun d z => nomatch z) q1
    rw [List.set_set] at f3
    exact f3
  | _ => exact q5.elim
theorem EnvOk.unpinL {a : Addr} {vs : List V} {xs : List PyData} (ok : EnvOk ⟨upd Z.fr a (.lst vs), Z.bag, a⟩ B σ H ρ) (hz : Z.fr a = none) (h : ρ[i]? = some .pi) (np : nopi (ρ.set i .un) = true) (hd : DrAll B vs xs) : EnvOk Z B σ H (ρ.set i (.ow xs)) := by
  have hza : (upd Z.fr a (HO.lst vs)) a = some (.lst vs) := upd_same
  have q1 : σ[i]? = some (some (.ref a)) := ok.ad i _ h
  have f1 := (ok.forget i).repin np Z.pin
  have f2 : EnvOk Z B σ H (ρ.set i .un) := f1.zle (same_upd_new hz) rfl
  have hn : NotOwn σ (ρ.set i .un) a := fun j s e1 e2 e3 => by
    rcases getElem?_set_cases e1 with ⟨rfl, z2, z3⟩ | ⟨z1, z2⟩
    · subst z2
      cases e2
    · obtain ⟨b, o, g1, g2, g3, g4, _⟩ := ok.ow j s z2 e2
      have := ref_same e3 g1
      subst this
      have g5 : (upd Z.fr a (HO.lst vs)) a = none := g4
      rw [hza] at g5
      cases g5
  have f3 := f2.setOw i (a := a) (s := .ow xs) (ok.lz _ _ hza) (ok.dj _ _ hza) hz hn hd (fun z => nomatch z)
  rw [set_self q1, List.set_set] at f3
  exact f3
end
def fForZ (i : Nat) (f : FE) (g : FG) (F : FS) : FS := fun ρ => match ρ[i]? with
  | some (.ow xs) => if nopi ρ = true then (f (ρ.set i .pi)).bind fun p => match p.1 with
    | .list ys => (forL g F (zipD xs ys) p.2).bind fun o => match o with
      | .nx ρ' => match ρ'[i]? with
        | some .pi => if nopi (ρ'.set i .un) = true then some (.nx (ρ'.set i (.ow xs))) else none
        | _ => none
      | _ => none
    | _ => none
    else none
  | _ => none
section
variable {X : Cx} {elts : List Expr} {kk : Nat} {tpos px p pos fpos : Pos} {e : Expr} {f : FE} {js : List Nat} {g : FG} {body : List Stmt} {F : FS} {x : Str}
theorem ds_forZ (i : Nat) (hm : X.mg "zip" = none) (he : DE X e f) (hg' : DG X (.Tuple elts kk tpos) js g) (hb : DSs X body F) (hN : X.N[i]? = some x := by rfl) (hv : Vis X.env.scope x := by first | exact Or.inl rfl | exact Or.inr (Or.inl rfl) | exact Or.inr (Or.inr rfl)) (hd : (x == ("__debug__" : Str)) = false := by decide)
    (hcd : (x == ("__classdict__" : Str)) = false := by decide) (hg : Gl X "zip" := by rfl) (hs : starEach [.Name x px, e] X.env = (false, eval (.Name x px) X.env) :: starEach [e] X.env := by rfl) (hs2 : starEach [e] X.env = (false, eval e X.env) :: starEach [] X.env := by rfl) (hpl : (backTo pos (starEach [e] X.env)).any (·.1) = false := by rfl)
    (hc : X.calm = true := by rfl) (hp : PassesOwn (model X.prog X.w) X.A X.env X.xe := by exact PassesOwn.never) (hf : ∀ y, foldedSetIterable (.Call (.Name "zip" p) [.Name x px, e] [] pos) X.env y = pure y := by intro _; rfl) :
    DS X (.For (.Tuple elts kk tpos) (.Call (.Name "zip" p) [.Name x px, e] [] pos) body [] fpos) (fForZ i f g F) := ps_imp (ps_for hp hc (RZ.pi_zipA hg hm (pa_cons (pe_var hN hv hd hcd) (pa_cons he pa_nil hs2) hs) hs hpl) hg' hb hf) fun D σ H ⟨Z, B, ρ, o, ok, q0, q⟩ => by
  unfold fForZ at q0
  split at q0
  · rename_i xs h
    split at q0
    · rename_i np
      obtain ⟨⟨d, ρ1⟩, e1, e2⟩ := Option.bind_eq_some_iff.mp q0
      split at e2
      · rename_i ys hys
        replace hys : d = .list ys := hys
        subst hys
        obtain ⟨o1, e3, e4⟩ := Option.bind_eq_some_iff.mp e2
        split at e4
        · rename_i ρ'
          split at e4
          · rename_i hpi
            split at e4
            · rename_i np2
              cases e4
              obtain ⟨a, vs, q1, q2, q3, q4, ok1⟩ := ok.pinL h np
              refine ⟨.ref a, q1, _, B, _, _, ρ1, ok1, e1, fun B1 H1 w s1 ok2 dw => ?_⟩
              cases dw with
              | lst h3 h4 =>
                rename_i b ws
                have za : (upd Z.fr a (HO.lst vs)) a = some (.lst vs) := upd_same
                have hda : DrAll B1 vs xs := q4.mono s1
                refine ⟨a, b, vs, ws, rfl, .inl ⟨SqL.of (ok2.lz _ _ za), SqL.of (ok2.le _ _ h3), ?_⟩⟩
                refine ⟨fun k m σ2 H2 => m = (zipD xs ys).length - k ∧ k ≤ (zipD xs ys).length ∧ ∃ B2 ρ2, Same B1 B2 ∧ EnvOk ⟨upd Z.fr a (.lst vs), Z.bag, a⟩ B2 σ2 H2 ρ2 ∧ forL g F ((zipD xs ys).drop k) ρ2 = some (.nx ρ'), ⟨(zipD xs ys).length, by simp, Nat.zero_le _, B1, ρ1, Same.refl B1, ok2, by rw [List.drop_zero]; exact e3⟩, fun k m σ2 H2 hW => ?_⟩
                obtain ⟨rfl, hk, B2, ρ2, s2, ok3, hfl⟩ := hW
                have hqa : SqL X.K H2 a vs := SqL.of (ok3.lz _ _ za)
                have hqb : SqL X.K H2 b ws := SqL.of (ok3.le _ _ (s2 _ _ h3))
                by_cases hlt : k < (zipD xs ys).length
                · obtain ⟨d, h5, h6⟩ := drop_at hlt
                  rw [h6] at hfl
                  obtain ⟨ρ3, f1, f2⟩ := Option.bind_eq_some_iff.mp hfl
                  obtain ⟨o3, f3, f4⟩ := Option.bind_eq_some_iff.mp f2
                  obtain ⟨u, y, z1, z2, rfl⟩ := zip_at h5
                  obtain ⟨v', z3, z4⟩ := hda.get z1
                  obtain ⟨w', z5, z6⟩ := h4.get z2
                  refine .inr ⟨⟨vs, ws, v', w', hqa, hqb, z3, z5⟩, fun σ' H' => ∃ B4 ρ4, Same B1 B4 ∧ EnvOk ⟨upd Z.fr a (.lst vs), Z.bag, a⟩ B4 σ' H' ρ4 ∧ forL g F ((zipD xs ys).drop (k + 1)) ρ4 = some (.nx ρ'), fun σ' H' hN' => ⟨(zipD xs ys).length - (k + 1), by omega, rfl, hlt, hN'⟩, fun r H' ⟨T, v2, w2, y1, y2, y3, y4, y5⟩ => ?_⟩
                  have y6 := y4 vs hqa
                  have y7 := y5 ws hqb
                  rw [z3] at y6
                  rw [z5] at y7
                  cases y6
                  cases y7
                  subst y1 y3
                  obtain ⟨B3, s3, ok4, dx⟩ := pair_new ok3 y2 (z4.mono s2) (z6.mono s2)
                  refine ⟨_, B3, ρ2, _, ρ3, ok4, dx, f1, fun σ3 ok5 _ => ⟨_, B3, ρ3, o3, ok5, f3, fun B4 s4 => ?_⟩⟩
                  cases o3 with
                  | nx ρ4 => exact fun σ5 H5 ok6 => ⟨B4, ρ4, s2.trans (s3.trans s4), ok6, f4⟩
                  | ct ρ4 => exact fun σ5 H5 ok6 => ⟨B4, ρ4, s2.trans (s3.trans s4), ok6, f4⟩
                  | bk ρ4 =>
                    cases f4
                    exact fun σ5 H5 ok6 => q B4 (s1.trans (s2.trans (s3.trans s4))) σ5 H5 (ok6.unpinL q3 hpi np2 (hda.mono (s2.trans (s3.trans s4))))
                  | rt s ρ4 => cases f4
                · have e : k = (zipD xs ys).length := by omega
                  rw [e, List.drop_length] at hfl
                  cases hfl
                  refine .inl ⟨⟨vs, ws, hqa, hqb, zip_stop hda.length h4.length e⟩, ?_⟩
                  exact q B2 (s1.trans s2) σ2 H2 (ok3.unpinL q3 hpi np2 (hda.mono s2))
            · cases e4
          · cases e4
        · cases e4
      · cases e2
    · cases q0
  · cases q0
end

/-! ### defs that tell a fresh list and a datum -/
abbrev FP2 := En → Option ((List PyData × PyData) × En)
def tP2 (f : FP2) : TE := fun σ H Q => ∃ Z B ρ p ρ', EnvOk Z B σ H ρ ∧ f ρ = some (p, ρ') ∧ ∀ B' H' t a vs v, Same B B' → EnvOk Z B' σ H' ρ' → H' t = some (.tup [.ref a, v]) → H' a = some (.lst vs) → B' a = none → Z.fr a = none → NotOwn σ ρ' a → DrAll B' vs p.1 → Dr B' v p.2 → Q (.ref t) H'
def spT (n : Nat) (F : List PyData → Option (List PyData × PyData)) : Sp := fun vs H Q _ => ∃ (Z : Zn) (B : Hp) (ds : List PyData) (p : List PyData × PyData), Same B H ∧ Same Z.fr H ∧ (∀ a o, Z.fr a = some o → B a = none) ∧ DrAll B vs ds ∧ ds.length = n ∧ F ds = some p ∧
  ∀ B' H' t a ws v, Same B B' → Same B' H' → Same Z.fr H' → (∀ a o, Z.fr a = some o → B' a = none) → H' t = some (.tup [.ref a, v]) → H' a = some (.lst ws) → B' a = none → Z.fr a = none → DrAll B' ws p.1 → Dr B' v p.2 → Q (.ref t) H'
structure CalT (P : Program) (w : World) (K : PySem.W.Frag) (mg : Str → Option Value) (base : Heap) (k : Nat) (x : Str) (n : Nat) (F : List PyData → Option (List PyData × PyData)) : Prop where
  ex : ∃ f fd ps, FnOk P w K mg base CX0 k f fd ps (spT n F) ∧ mg x = some (.ref f) ∧ PySem.W.keepIn K (.ref f) = true ∧ Binds K fd ps []
/-- the body: statements, then the list in slot i told together with e -/
def runT (n : Nat) (F : FS) (i : Nat) (f : FE) : List PyData → Option (List PyData × PyData) := fun ds => (F (startE n ds)).bind fun o => match o with
  | .nx ρ => (f ρ).bind fun p => match p.2[i]? with
    | some (.ow xs) => some (xs, p.1)
    | _ => none
  | _ => none
def tRetT (f : FE) (i : Nat) : TS := fun D σ H => ∃ Z B ρ d ρ' xs, EnvOk Z B σ H ρ ∧ f ρ = some (d, ρ') ∧ ρ'[i]? = some (.ow xs) ∧ (∃ ys, ρ[i]? = some (.ow ys)) ∧ ∀ B' H' t a ws v, Same B B' → Same B' H' → Same Z.fr H' → (∀ a o, Z.fr a = some o → B' a = none) → H' t = some (.tup [.ref a, v]) → H' a = some (.lst ws) → B' a = none → Z.fr a = none → DrAll B' ws xs → Dr B' v d → D.rt (.ref t) H'
section
variable {X : Cx} {px tpos pos : Pos} {kk : Nat} {e : Expr} {f : FE} {x : Str}
theorem pss_retT (i : Nat) (he : DE X e f) (hN : X.N[i]? = some x := by rfl) (hv : Vis X.env.scope x := by first | exact Or.inl rfl | exact Or.inr (Or.inl rfl) | exact Or.inr (Or.inr rfl)) (hd : (x == ("__debug__" : Str)) = false := by decide)
    (hcd : (x == ("__classdict__" : Str)) = false := by decide) (hs : starEach [.Name x px, e] X.env = (false, eval (.Name x px) X.env) :: starEach [e] X.env := by rfl) (hs2 : starEach [e] X.env = (false, eval e X.env) :: starEach [] X.env := by rfl) :
    PSs X [.Return (some (.Tuple [.Name x px, e] kk tpos)) pos] (tRetT f i) := pss_imp (pss_one (ps_ret (pe_tup (pa_cons (pe_var hN hv hd hcd) (pa_cons he pa_nil hs2) hs)))) fun D σ H ⟨Z, B, ρ, d, ρ', xs, ok, e1, e2, ⟨ys, e3⟩, q⟩ => by
  obtain ⟨a0, _, g1, _⟩ := ok.ow i _ e3 rfl
  refine ⟨.ref a0, g1, Z, B, ρ, d, ρ', ok, e1, fun B1 H1 v s1 ok1 dv => ?_⟩
  obtain ⟨a, o, q1, q2, q3, q4, q5⟩ := ok1.ow i _ e2 rfl
  have := ref_same g1 q1
  subst this
  cases o with
  | lst vs =>
    refine ⟨Nat.le_trans (show 2 ≤ 2 from Nat.le_refl 2) (by decide), fun t ht => ?_⟩
    have na : a0 ≠ t := ne_of_none q2 ht
    have ok2 := ok1.junk (o := .tup [.ref a0, v]) ht
    exact q B1 _ t a0 vs v s1 ok2.le ok2.lz ok2.dj upd_same (by rw [upd_ne na]; exact q2) q3 q4 q5 dv
  | _ => exact q5.elim
end
section
variable {P : Program} {w : World} {K : PySem.W.Frag} {mg : Str → Option Value} {base : Heap}
theorem calT_of {x : Str} {st : Stmt} {N ps : List Str} {k i : Nat} {F : FS} {f : FE} (D : DefAt K mg x st) (S : FnScope N ps (defScope st)) (hl : ps.length ≤ N.length)
    (h : ∀ (kV doc pm : Value) (an : Option Addr) (cdv ct : Value) (us : List Value), us.length = ps.length → bindArgs (PySem.W.fnOf x x (defArgs st) (defBody st) (defScope st) .none kV doc pm an cdv ct) ⟨us, []⟩ = pure (ps.zip us))
    (hi : ∀ ρ d ρ' xs, f ρ = some (d, ρ') → ρ'[i]? = some (.ow xs) → ∃ ys, ρ[i]? = some (.ow ys))
    (hb : ∀ (f' : Addr) (cdv : Value) (A : Around) (outer : List Env) (s : Shared) (H : Hp) (E : XK), Room k (A.deeper (envOfC x (defScope st) s.heap.objs.size f' cdv)) → PSs (cxOf CX0 P w K mg base N x (defScope st) f' cdv A outer s H E).nox (defBody st) (tPre F (tRetT f i))) :
    CalT P w K mg base (k + 1) x ps.length (runT N.length F i f) := by
  obtain ⟨g, fd, D, gm⟩ := D.ex
  refine ⟨g, fd, ps, ?_, gm, D.kp, D.bindsN h⟩
  refine D.ok S (fun vs H Q E h => ?_) (fun cdv A outer s H vs Q E hr h => ?_)
  · obtain ⟨Z, B, ds, p, _, _, _, h4, h5, _⟩ := h
    rw [h4.length, h5]
  · obtain ⟨Z, B, ds, p, h1, h2, h3, h4, h5, h6, q⟩ := h
    refine ⟨_, PSs.nox (hb g cdv A outer s H E hr), ?_⟩
    unfold runT at h6
    obtain ⟨o, e1, e2⟩ := Option.bind_eq_some_iff.mp h6
    cases o with
    | nx ρ1 =>
      obtain ⟨⟨d, ρ2⟩, e3, e4⟩ := Option.bind_eq_some_iff.mp e2
      split at e4
      · rename_i xs e5
        cases e4
        refine ⟨Z, B, _, ρ1, env_start h1 h2 h3 h4 (by rw [h5]; exact hl), e1, fun B1 σ1 H1 s1 ok1 => ?_⟩
        exact ⟨Z, B1, ρ1, d, ρ2, xs, ok1, e3, e5, hi _ _ _ _ e3 e5, fun B' H' t a ws v s2 s3 s4 s5 z1 z2 z3 z4 z5 z6 => q B' H' t a ws v (s1.trans s2) s3 s4 s5 z1 z2 z3 z4 z5 z6⟩
      · cases e4
    | rt s ρ => cases e2
    | bk ρ => cases e2
    | ct ρ => cases e2
end
def fCallT (n : Nat) (F : List PyData → Option (List PyData × PyData)) (k : FA) : FP2 := fun ρ => (k ρ).bind fun p => if p.1.length = n then (F p.1).map fun s => (s, p.2) else none
def fUnT (i j : Nat) (f : FP2) : FS := fun ρ => (f ρ).map fun p => .nx ((p.2.set i (.ow p.1.1)).set j (.sh p.1.2))
section
variable {X : Cx} {j k n : Nat} {x : Str} {p pos : Pos} {e : Expr} {es : List Expr} {fa : FA}
theorem dt_fn {F : List PyData → Option (List PyData × PyData)} (C : CalT X.prog X.w X.K X.mg X.base j x n F) (hr : Room k X.A) (ha : DA X (e :: es) fa) (hk : j ≤ k := by decide)
    (hg : Gl X x := by rfl) (hdb : (x == ("__debug__" : Str)) = false := by decide) (he : starEach (e :: es) X.env = (false, eval e X.env) :: starEach es X.env := by rfl) (hpl : (backTo pos (starEach es X.env)).any (·.1) = false := by rfl) :
    PE X (.Call (.Name x p) (e :: es) [] pos) (tP2 (fCallT n F fa)) := by
  obtain ⟨f, fd, ps, D, hm, hkp, hb⟩ := C.ex
  refine pe_imp (pe_call D (hr.mono hk) hg hm hkp hb .nil pass0 ha hdb he hpl) fun σ H Q ⟨Z, B, ρ, s, ρ', ok, q0, q⟩ => ?_
  unfold fCallT at q0
  obtain ⟨⟨ds, ρ1⟩, e1, e2⟩ := Option.bind_eq_some_iff.mp q0
  split at e2
  · rename_i hlen
    obtain ⟨s', e3, e4⟩ := Option.map_eq_some_iff.mp e2
    cases e4
    refine ⟨Z, B, ρ, ds, _, ok, e1, fun B1 H1 vs s1 ok1 dv => ?_⟩
    show spT n F (vs ++ []) H1 Q E0
    rw [List.append_nil]
    refine ⟨restZ H1 B1 Z.bag (fun _ => false), B1, ds, s, ok1.le, fun a o h => (restZ_at h).2.2, fun a o h => (restZ_at h).1, dv, hlen, e3, fun B' H' t a ws v s2 s3 s4 s5 z1 z2 z3 z4 z5 z6 => ?_⟩
    have hH : H1 a = none := by
      cases ec : H1 a with
      | none => rfl
      | some u =>
        rw [restZ_of (s2.free z3) rfl ec] at z4
        cases z4
    exact q B' H' t a ws v (s1.trans s2) (ok1.after s2 s3 s4 s5 (fun _ _ _ => rfl) fun _ _ _ _ _ _ => rfl) z1 z2 z3 (ok1.lz.free hH) (NotOwn.new ok1 hH) z5 z6
  · cases e2
end
section
variable {X : Cx} {e : Expr} {f : FP2} {pos px py pt : Pos} {kt : Nat} {x y : Str}
theorem ds_unT (i j : Nat) (hN : X.N.Nodup) (he : PE X e (tP2 f)) (hi : X.N[i]? = some x := by rfl) (hj : X.N[j]? = some y := by rfl) (hx : Loc X.env.scope x := by first | exact Or.inl rfl | exact Or.inr rfl) (hy : Loc X.env.scope y := by first | exact Or.inl rfl | exact Or.inr rfl)
    (hfx : X.fn x = true ∨ X.env.scope.names.lookup x = some .local := by first | exact .inl rfl | exact .inr rfl) (hfy : X.fn y = true ∨ X.env.scope.names.lookup y = some .local := by first | exact .inl rfl | exact .inr rfl) (hc : X.calm = true := by rfl)
    (hs : swapsWithSole [.Tuple [.Name x px, .Name y py] kt pt] e pos.line X.env = pure false := by rfl) (hw : swappedStores [.Tuple [.Name x px, .Name y py] kt pt] e X.env = pure none := by rfl)
    (h1 : (assignEach [.Tuple [.Name x px, .Name y py] kt pt] X.env).map (·.2) = [assign (.Tuple [.Name x px, .Name y py] kt pt) X.env] := by rfl) : DS X (.Assign [.Tuple [.Name x px, .Name y py] kt pt] e pos) (fUnT i j f) :=
  ps_imp (ps_asg he (pg_tup hc (pgs_cons (pg_name hN hi hx hfx) (pgs_cons (pg_name hN hj hy hfy) pgs_nil))) hs hw h1) fun D σ H ⟨Z, B, ρ, o, ok, e, q⟩ => by
  unfold fUnT at e
  obtain ⟨⟨⟨xs, d⟩, ρ1⟩, e1, e2⟩ := Option.map_eq_some_iff.mp e
  cases e2
  refine ⟨Z, B, ρ, (xs, d), ρ1, ok, e1, fun B1 H1 t a vs v s1 ok1 z1 z2 z3 z4 z5 z6 z7 => ?_⟩
  refine ⟨t, _, rfl, SqT.of z1, rfl, _, _, rfl, _, _, rfl, rfl, ?_⟩
  have ok2 := ok1.setOw i (a := a) (o := .lst vs) (s := .ow xs) z2 z3 z4 z5 z6 (fun z => nomatch z)
  have ok3 := ok2.setSh j z7
  exact q B1 s1 _ H1 ok3
end
theorem lend_same {f : FE} {ρ ρ' : En} {d : PyData} (h : fLend f ρ = some (d, ρ')) : ρ = ρ' := by
  unfold fLend at h
  obtain ⟨p, _, h2⟩ := Option.bind_eq_some_iff.mp h
  split at h2
  · cases h2
    rfl
  · cases h2
/-! pure equations -/
@[simp] theorem keyD_i (i : Int) : keyD (.int i) = some (.inl i) := rfl
@[simp] theorem fDGet_eq (i : Nat) (g : FE) (ρ : En) : fDGet i g ρ = (g ρ).bind fun p => if isD ρ[i]? = true then (getS p.2[i]? p.1).bind fun r => r.map fun d => (d, p.2) else none := rfl
@[simp] theorem fDIn_eq (i : Nat) (g : FE) (ρ : En) : fDIn i g ρ = (g ρ).bind fun p => (getS p.2[i]? p.1).map fun r => (.bool r.isSome, p.2) := rfl
@[simp] theorem fDNotIn_eq (i : Nat) (g : FE) (ρ : En) : fDNotIn i g ρ = (g ρ).bind fun p => (getS p.2[i]? p.1).map fun r => (.bool (!r.isSome), p.2) := rfl
@[simp] theorem fDGet2_eq (i : Nat) (g h : FE) (ρ : En) : fDGet2 i g h ρ = if isD ρ[i]? = true then (g ρ).bind fun p => (h p.2).bind fun q => (getS q.2[i]? p.1).map fun r => (r.getD q.1, q.2) else none := rfl
@[simp] theorem fDPut_eq (i : Nat) (k e : FE) (ρ : En) : fDPut i k e ρ = (e ρ).bind fun p => if isD p.2[i]? = true then (k p.2).bind fun q => (putS q.2[i]? q.1 p.1).map fun s => .nx (q.2.set i s) else none := rfl
@[simp] theorem fDNewK_eq (ρ : En) : fDNewK ρ = some (.ok [], ρ) := rfl
@[simp] theorem isD_ok (m : List (Key × PyData)) : isD (some (.ok m)) = true := rfl
@[simp] theorem isD_lk (m : List (Key × PyData)) : isD (some (.lk m)) = true := rfl
@[simp] theorem isD_ot (m : List (List Key × PyData)) : isD (some (.ot m)) = true := rfl
@[simp] theorem getS_ok (m : List (Key × PyData)) (d : PyData) : getS (some (.ok m)) d = (keyD d).map (valD m) := rfl
@[simp] theorem getS_lk (m : List (Key × PyData)) (d : PyData) : getS (some (.lk m)) d = (keyD d).map (valD m) := rfl
@[simp] theorem getS_ot (m : List (List Key × PyData)) (d : PyData) : getS (some (.ot m)) d = (tkeyD d).map (valD m) := rfl
@[simp] theorem putS_ok (m : List (Key × PyData)) (k d : PyData) : putS (some (.ok m)) k d = (keyD k).bind fun k => if m.length < 16777216 then some (.ok (putD m k d)) else none := rfl
@[simp] theorem putS_ot (m : List (List Key × PyData)) (k d : PyData) : putS (some (.ot m)) k d = (tkeyD k).bind fun k => if m.length < 16777216 then some (.ot (putD m k d)) else none := rfl
@[simp] theorem fUnT_eq (i j : Nat) (f : FP2) (ρ : En) : fUnT i j f ρ = (f ρ).map fun p => .nx ((p.2.set i (.ow p.1.1)).set j (.sh p.1.2)) := rfl
@[simp] theorem fCallT_eq (n : Nat) (F : List PyData → Option (List PyData × PyData)) (k : FA) (ρ : En) : fCallT n F k ρ = (k ρ).bind fun p => if p.1.length = n then (F p.1).map fun s => (s, p.2) else none := rfl

/-! GK9: fresh lists by +, int(bool), list(range(n)), dict comprehensions, sorted of one, sum of a dict's values, a loop over a dict. -/
section
variable {X : Cx} {a b e : Expr} {f g : FE} {pos p p2 pos2 : Pos} {k : FA}
/-! ### a + b, a list of one's own -/
def fCat (f g : FE) : FR := fun ρ => (f ρ).bind fun p => (g p.2).bind fun q => match p.1, q.1 with
  | .list xs, .list ys => if xs.length + ys.length ≤ 16777216 then some (.ow (xs ++ ys), q.2) else none
  | _, _ => none
theorem dr_cat (ha : DE X a f) (hb : DE X b g) : DR X (.BinOp a .Add b pos) (fCat f g) := pe_imp (pe_op op_cat ha hb) fun σ H Q ⟨Z, B, ρ, s, ρ', ok, e, q⟩ => by
  unfold fCat at e
  obtain ⟨⟨d1, ρ1⟩, e1, e2⟩ := Option.bind_eq_some_iff.mp e
  obtain ⟨⟨d2, ρ2⟩, e3, e4⟩ := Option.bind_eq_some_iff.mp e2
  split at e4
  · rename_i xs ys z1 z2
    replace z1 : d1 = .list xs := z1
    replace z2 : d2 = .list ys := z2
    subst z1 z2
    split at e4
    · rename_i hl
      cases e4
      refine ⟨Z, B, ρ, _, ρ1, ok, e1, fun B1 H1 v s1 ok1 dv => ⟨Z, B1, ρ1, _, _, ok1, e3, fun B2 H2 w s2 ok2 dw => ?_⟩⟩
      have dv2 := dv.mono s2
      cases dv2 with
      | lst h1 h2 =>
        cases dw with
        | lst h3 h4 =>
          refine ⟨_, _, _, _, rfl, rfl, ok2.le _ _ h1, ok2.le _ _ h3, by rw [h2.length, h4.length]; exact hl, fun p hp => ?_⟩
          obtain ⟨ok4, r4⟩ := own_lst ok2 (h2.app h4) hp
          exact q B2 _ _ (s1.trans s2) ok4 r4
    · cases e4
  · cases e4
/-! ### int(x) -/
def hInt : List PyData → Option Sl
  | [.int i] => some (.sh (.int i))
  | [.bool b] => some (.sh (.int (if b then 1 else 0)))
  | _ => none
theorem cd_int : CallD (fun xs H Q => (∃ i, xs = [.int i] ∧ Q (.int i) H) ∨ ∃ k, xs = [.bl k] ∧ Q (.int (if k then 1 else 0)) H) hInt := fun Z B σ H ρ vs ds s ok dv hz Q q => by
  unfold hInt at hz
  split at hz
  · cases hz
    obtain ⟨v, rfl, h1⟩ := drAll_one dv
    cases h1
    exact .inl ⟨_, rfl, cd_sh q ok (.int _)⟩
  · cases hz
    obtain ⟨v, rfl, h1⟩ := drAll_one dv
    cases h1
    exact .inr ⟨_, rfl, cd_sh q ok (.int _)⟩
  · cases hz
theorem dr_int (hm : X.mg "int" = none) (ha : DA X [e] k) (hg : Gl X "int" := by rfl) (he : starEach [e] X.env = (false, eval e X.env) :: starEach [] X.env := by rfl) (hpl : (backTo pos (starEach [] X.env)).any (·.1) = false := by rfl) : DR X (.Call (.Name "int" p) [e] [] pos) (fCall hInt k) := dr_callTy call_int1 cd_int hm PyProof.Rows.boot_int ha hg (by decide) (by decide) he hpl
/-! ### list(range(n)) -/
theorem cr_rng1 : CallR X (.type "range") (fun vs H Q => ∃ j, vs = [V.int j] ∧ ∀ p, H p = none → Q (.ref p) (upd H p (.rng 0 j))) := by
  intro pins s0 σ H vs us Q I r h
  obtain ⟨j, rfl, q⟩ := h
  obtain ⟨u, rfl, t, rfl⟩ := vals1 r
  refine call_range_1 ⟨.ref s0.heap.objs.size, upd H s0.heap.objs.size (.rng 0 j), I.laid (t' := s0.toks + 1 + 1) (fun _ _ z => Heap.get?_push_of_some _ z) (Nat.le_refl _) ⟨s0.toks, t, s0.toks + 1, Heap.get?_push_size _ rfl⟩, rfl, q _ (I.hok.fresh (Nat.le_refl _))⟩
theorem cr_lrng (hc : X.calm = true) : CallR X (.type "list") (fun vs H Q => ∃ (a : Addr) (n : Nat), vs = [V.ref a] ∧ H a = some (.rng 0 (n : Int)) ∧ n ≤ 16000000 ∧ ∀ p, H p = none → Q (.ref p) (upd H p (.lst ((List.range n).map fun (k : Nat) => V.int (k : Int))))) := by
  intro pins s0 σ H vs us Q I r h
  obtain ⟨a, n, rfl, hH, hn, q⟩ := h
  obtain ⟨u, rfl, ru⟩ := vals1 r
  cases ru
  obtain ⟨t, u, w, e1⟩ := I.hok a _ hH
  have sm : Builtin.Range.small 0 (n : Int) 1 = true := small_one (by decide) (by decide) (by rw [p62]; omega) (by rw [p62]; omega)
  have sz : Builtin.Range.rangeSize 0 (n : Int) 1 = n := by
    unfold Builtin.Range.rangeSize
    simp
    omega
  refine call_list_range (I.ok.hd hc) e1 sm sz (by omega) fun h' tk acc c hk hD hacc => ?_
  have hv : Vals ((List.range n).map fun (k : Nat) => V.int (k : Int)) acc.toList := by
    refine vals_of_ints (ns := (List.range n).map fun (k : Nat) => (k : Int)) ?_ |> fun z => by rwa [List.map_map] at z
    refine ints_each (by rw [Array.length_toList, hacc.1, List.length_map, List.length_range]) fun j v e => ?_
    have hj : j < n := by
      have := (List.getElem?_eq_some_iff.mp e).1
      rw [Array.length_toList, hacc.1] at this
      exact this
    obtain ⟨t', ht⟩ := hacc.2 j v (by rw [← Array.getElem?_toList]; exact e)
    refine ⟨(j : Int), t', by rw [List.getElem?_map, List.getElem?_range hj]; rfl, ?_⟩
    rw [ht, show (0 : Int) + (j : Int) * 1 = (j : Int) by omega]
  have e0 : acc.toList.toArray = acc := Array.toArray_toList
  refine ⟨.ref s0.heap.objs.size, _, I.laid (t' := tk) hk (Nat.le_refl _) (show ObjOk X.prog X.w _ h' _ (.lst _) from ⟨?_, acc.toList, c, hv, by rw [e0]; exact hD⟩), rfl, q _ (I.hok.fresh (Nat.le_refl _))⟩
  rw [List.length_map, List.length_range, sizeLine_eq]
  omega
def fLRng (f : FE) : FR := fun ρ => (f ρ).bind fun p => match p.1 with
  | .int j => if 0 ≤ j ∧ j ≤ 16000000 then some (.ow (rangeD 0 j.toNat), p.2) else none
  | _ => none
theorem dr_lrng (hm : X.mg "list" = none) (hm2 : X.mg "range" = none) (ha : DE X e f) (hg : Gl X "list" := by rfl) (hg2 : Gl X "range" := by rfl) (hc : X.calm = true := by rfl)
    (he : starEach [e] X.env = (false, eval e X.env) :: starEach [] X.env := by rfl) (hpl : (backTo pos2 (starEach [] X.env)).any (·.1) = false := by rfl) (hpl2 : (backTo pos (starEach [] X.env)).any (·.1) = false := by rfl)
    (he2 : starEach [.Call (.Name "range" p2) [e] [] pos2] X.env = (false, eval (.Call (.Name "range" p2) [e] [] pos2) X.env) :: starEach [] X.env := by rfl) : DR X (.Call (.Name "list" p) [.Call (.Name "range" p2) [e] [] pos2] [] pos) (fLRng f) :=
  pe_imp (pe_callTy (cr_lrng hc) hg hm PyProof.Rows.boot_list (pa_cons (pe_callTy cr_rng1 hg2 hm2 boot_range (pa_cons ha pa_nil he) (by decide) (by decide) he hpl) pa_nil he2) (by decide) (by decide) he2 hpl2) fun σ H Q ⟨Z, B, ρ, s, ρ', ok, e, q⟩ => by
  unfold fLRng at e
  obtain ⟨⟨d1, ρ1⟩, e1, e2⟩ := Option.bind_eq_some_iff.mp e
  split at e2
  · rename_i j z
    replace z : d1 = .int j := z
    subst z
    split at e2
    · rename_i hj
      cases e2
      refine ⟨Z, B, ρ, _, _, ok, e1, fun B1 H1 v s1 ok1 dv => ?_⟩
      cases dv
      refine ⟨j, rfl, fun p hp => ?_⟩
      have ej : j = (j.toNat : Int) := by omega
      refine ⟨p, j.toNat, rfl, by rw [upd_same, ← ej], by omega, fun p' hp' => ?_⟩
      have ok2 := ok1.junk (o := .rng 0 j) hp
      have d3 : DrAll B1 ((List.range j.toNat).map fun (k : Nat) => V.int (k : Int)) (rangeD 0 j.toNat) := by
        have h := DrAll.ints (H := B1) ((List.range j.toNat).map fun (k : Nat) => (k : Int))
        rw [List.map_map, List.map_map] at h
        unfold rangeD
        have e3 : (fun (k : Nat) => PyData.int (0 + (k : Int))) = PyData.int ∘ fun (k : Nat) => (k : Int) := by
          funext k
          show PyData.int _ = PyData.int _
          rw [Int.zero_add]
        rw [e3]
        exact h
      obtain ⟨ok4, r4⟩ := own_lst ok2 d3 hp'
      exact q B1 _ _ s1 ok4 r4
    · cases e2
  · cases e2
end
/-! ### dict comprehensions -/
def dcL (vs : List Nat) (g : FG) (tt : FT) (tk tv : FE) : List PyData → En → List (Key × PyData) → Option (List (Key × PyData) × En)
  | [], ρ, m => some (m, ρ)
  | d :: ds, ρ, m => (g d ρ).bind fun ρ1 => (tt ρ1).bind fun p => if p.1 = true then (tk p.2).bind fun k => (tv k.2).bind fun v => (keyD k.1).bind fun kk => dcL vs g tt tk tv ds (wipeE v.2 vs) (putD m kk v.1) else dcL vs g tt tk tv ds (wipeE p.2 vs) m
def fDc (vs : List Nat) (it : FI) (g : FG) (tt : FT) (tk tv : FE) : FR := fun ρ => (it ρ).bind fun p => if p.1.length ≤ 16000000 then (dcL vs g tt tk tv p.1 (wipeE p.2 vs) []).map fun r => (.ok r.1, wipeE r.2 vs) else none
theorem putD_le {κ : Type} [DecidableEq κ] (k : κ) (d : PyData) : ∀ m : List (κ × PyData), (putD m k d).length ≤ m.length + 1
  | [] => by simp [putD]
  | p :: m => by
    have ih := putD_le k d m
    unfold putD
    split
    · simp
    · simp only [List.length_cons]
      omega
theorem tDc_of {it : FI} {g : FG} {tt : FT} {tk tv : FE} {vs js : List Nat} (hj : ∀ j ∈ js, j ∈ vs) : ∀ σ H Q, tR (fDc vs it g tt tk tv) σ H Q → tDc (tI it) (tG js g) (tT tt) (tE tk) (tE tv) vs σ H Q := fun σ H Q ⟨Z, B, ρ, s, ρ', ok, q0, q⟩ => by
  unfold fDc at q0
  obtain ⟨⟨ds, ρ1⟩, e1, e2⟩ := Option.bind_eq_some_iff.mp q0
  split at e2
  · rename_i hlen
    obtain ⟨⟨ys, ρe⟩, e3, e4⟩ := Option.map_eq_some_iff.mp e2
    cases e4
    refine ⟨Z, B, ρ, ds, ρ1, ok, e1, fun B1 H1 J s1 ok1 wk D hD => ?_⟩
    have zD : Z.fr D = none := ok1.lz.free hD
    have bD : B1 D = none := ok1.le.free hD
    have start : EnvOk (Z.upd D (.dK [])) B1 (wipe σ vs) (upd H1 D (.dK [])) (wipeE ρ1 vs) := by
      have h1 : EnvOk Z B1 (wipe σ vs) H1 (wipeE ρ1 vs) := ok1.swap (wipe_length σ vs) fun j hj => wipe_out hj
      exact (h1.junk hD).keep upd_same bD (NotOwn.new h1 hD)
    refine ⟨fun i m H2 => m = ds.length - i ∧ i ≤ ds.length ∧ ∃ B2 ρ2 acc accV, Same B1 B2 ∧ EnvOk (Z.upd D (.dK accV)) B2 (wipe σ vs) H2 ρ2 ∧ KvR B2 accV acc ∧ acc.length ≤ i ∧ dcL vs g tt tk tv (ds.drop i) ρ2 acc = some (ys, ρe),
      ⟨ds.length, by simp, Nat.zero_le _, B1, _, [], [], Same.refl B1, start, .nil, Nat.le_refl _, by rw [List.drop_zero]; exact e3⟩, fun i m H2 hW => ?_⟩
    obtain ⟨rfl, hi, B2, ρ2, acc, accV, s2, ok2, da, hl, hf⟩ := hW
    have hDz : (Z.upd D (.dK accV)).fr D = some (.dK accV) := upd_same
    have sz : Same Z.fr (Z.upd D (.dK accV)).fr := same_upd_new zD
    by_cases h : i < ds.length
    · obtain ⟨d, h1, h2⟩ := drop_at h
      rw [h2] at hf
      obtain ⟨ρ3, e5, e6⟩ := Option.bind_eq_some_iff.mp hf
      obtain ⟨⟨b, ρ4⟩, e7, e8⟩ := Option.bind_eq_some_iff.mp e6
      obtain ⟨go, yl⟩ := (wk _ B2 (wipe σ vs) H2 ρ2 i s2 ok2).2 d h1
      refine .inr ⟨go, fun H' => ∃ B3 ρ3 acc accV, Same B1 B3 ∧ EnvOk (Z.upd D (.dK accV)) B3 (wipe σ vs) H' ρ3 ∧ KvR B3 accV acc ∧ acc.length ≤ i + 1 ∧ dcL vs g tt tk tv (ds.drop (i + 1)) ρ3 acc = some (ys, ρe), fun H' hN => ⟨ds.length - (i + 1), by omega, rfl, h, hN⟩, fun x H' hy' => ?_⟩
      obtain ⟨B3, s3, ok3, dx⟩ := yl x H' hy'
      refine ⟨_, B3, ρ2, d, ρ3, ok3, dx, e5, fun σ3 ok4 hσ => ⟨?_, _, B3, ρ3, b, ρ4, ok4, e7, fun B4 H4 s4 ok5 => ?_⟩⟩
      · rw [← wipe_wipe σ vs]
        exact wipe_eq hσ.len fun j hj' => hσ.out j fun z => hj' (hj j z)
      have back : ∀ {Z' : Zn} {B' H' : Hp} {ρ' : En}, EnvOk Z' B' σ3 H' ρ' → EnvOk Z' B' (wipe σ vs) H' (wipeE ρ' vs) := fun ok' => ok'.swap hσ.len.symm fun j hj' => (hσ.out j fun z => hj' (hj j z)).symm
      cases b with
      | true =>
        rw [if_pos rfl] at e8
        refine iteT ?_
        obtain ⟨⟨y, ρ5⟩, e9, e10⟩ := Option.bind_eq_some_iff.mp e8
        obtain ⟨⟨x', ρ6⟩, e11, e12⟩ := Option.bind_eq_some_iff.mp e10
        obtain ⟨kk, e13, e14⟩ := Option.bind_eq_some_iff.mp e12
        refine ⟨_, B4, ρ4, y, ρ5, ok5, e9, fun B5 H5 u s5 ok6 du => ⟨_, B5, ρ5, x', ρ6, ok6, e11, fun B6 H6 v s6 ok7 dv => ?_⟩⟩
        have s26 : Same B2 B6 := s3.trans (s4.trans (s5.trans s6))
        have hD5 : H6 D = some (.dK accV) := ok7.lz _ _ hDz
        have bD5 : B6 D = none := ok7.dj _ _ hDz
        have nD5 : NotOwn σ3 ρ6 D := fun j s' f1 f2 f3 => by
          obtain ⟨a, o, g1, g2, g3, g4, _⟩ := ok7.ow j s' f1 f2
          have := ref_same f3 g1
          subst this
          rw [hDz] at g4
          cases g4
        refine ⟨accV, kk, dr_key (du.mono s6) e13, hD5, by rw [KvR.length da]; exact sz16 (by have : ds.length ≤ 16000000 := hlen; omega), B6, _, putD acc kk x', putK accV kk v, s2.trans s26, ?_, KvR.put dv kk (KvR.mono s26 da), by have := putD_le kk x' acc; omega, e14⟩
        exact back (((ok7.zle sz rfl).other bD5 zD nD5).keep upd_same bD5 nD5)
      | false =>
        rw [if_neg Bool.false_ne_true] at e8
        refine iteF ?_
        exact ⟨B4, _, acc, accV, s2.trans (s3.trans s4), back ok5, KvR.mono (s3.trans s4) da, Nat.le_succ_of_le hl, e8⟩
    · have e : i = ds.length := by omega
      rw [e, List.drop_length] at hf
      cases hf
      refine .inl ⟨(wk _ B2 (wipe σ vs) H2 _ i s2 ok2).1 e, ?_⟩
      have hD2 : H2 D = some (.dK accV) := ok2.lz _ _ hDz
      have bD2 : B2 D = none := ok2.dj _ _ hDz
      have ok3 : EnvOk Z B2 σ H2 (wipeE ρe vs) := (ok2.zle sz rfl).swap (wipe_length σ vs).symm fun j hj' => (wipe_out hj').symm
      have nD : NotOwn σ (wipeE ρe vs) D := fun j s' f1 f2 f3 => by
        rcases wipeE_at f1 with z | ⟨h3, h4⟩
        · subst z
          cases f2
        · obtain ⟨a, o, g1, g2, g3, g4, _⟩ := ok2.ow j s' h4 f2
          rw [wipe_out h3] at g1
          have := ref_same f3 g1
          subst this
          rw [hDz] at g4
          cases g4
      exact q B2 H2 _ (s1.trans s2) ok3 (.inr ⟨D, _, rfl, hD2, bD2, zD, nD, da, rfl⟩)
  · cases e2
theorem dr_dc {X : Cx} {kx vx tg iter : Expr} {ifs : List Expr} {scope : Scope} {own : List (Str × Nat)} {pos : Pos} {it : FI} {g : FG} {tt : FT} {tk tv : FE} {js vs : List Nat} (hN : X.N.Nodup) (hi : DI X tg iter it) (ok : BlkOk X.N X.env.scope scope own)
    (hg : ∀ (s : Shared) (H : Hp) (C : Addr) (cl : List (Str × Addr)) (fp : List Addr), DG (X.blk s H scope (compEnvC scope cl C X.env) fp) tg js g)
    (ht : ∀ (s : Shared) (H : Hp) (C : Addr) (cl : List (Str × Addr)) (fp : List Addr), DTs (X.blk s H scope (compEnvC scope cl C X.env) fp) ifs tt)
    (hk : ∀ (s : Shared) (H : Hp) (C : Addr) (cl : List (Str × Addr)) (fp : List Addr), DE (X.blk s H scope (compEnvC scope cl C X.env) fp) kx tk)
    (he : ∀ (s : Shared) (H : Hp) (C : Addr) (cl : List (Str × Addr)) (fp : List Addr), DE (X.blk s H scope (compEnvC scope cl C X.env) fp) vx tv)
    (hc : X.calm = true := by rfl) (hv : own.map (·.2) = vs := by rfl) (hj : ∀ j ∈ js, j ∈ vs := by decide) (hs : ∀ x, foldedSetIterable iter X.env x = pure x := by intro _; rfl) :
    DR X (.DictComp kx vx [⟨tg, iter, ifs, 0⟩] scope pos) (fDc vs it g tt tk tv) := by
  subst hv
  exact pe_imp (pe_dc hc hN hi ok hg ht hk he hs) (tDc_of hj)
/-! ### sorted of a dict's int keys -/
def keysI : List (Key × PyData) → Option (List Int)
  | [] => some []
  | (.inl i, _) :: m => (keysI m).map (i :: ·)
  | _ => none
theorem keysI_eq : ∀ {m : List (Key × PyData)} {ks : List Int}, keysI m = some ks → m.map (·.1) = ks.map Sum.inl
  | [], ks, h => by cases h; rfl
  | (.inl i, d) :: m, ks, h => by
    obtain ⟨l, h1, h2⟩ := Option.map_eq_some_iff.mp (show (keysI m).map (i :: ·) = some ks from h)
    subst h2
    rw [List.map_cons, keysI_eq h1]
    rfl
  | (.inr _, _) :: _, _, h => by cases h
theorem KvR.keys {B : Hp} {κ : Type} : ∀ {l : List (κ × V)} {m : List (κ × PyData)}, KvR B l m → l.map (·.1) = m.map (·.1)
  | _, _, .nil => rfl
  | _, _, .cons _ t => by rw [List.map_cons, List.map_cons, KvR.keys t]
def fSortD (f : FR) : FR := fun ρ => (f ρ).bind fun p => match p.1 with
  | .ok m => (keysI m).bind fun ks => if ks.length < 64 then some (.ow ((srtI ks).map PyData.int), p.2) else none
  | _ => none
section
variable {X : Cx} {e : Expr} {f : FR} {pos p : Pos}
theorem dr_sortD (hm : X.mg "sorted" = none) (ha : DR X e f) (hg : Gl X "sorted" := by rfl) (hc : X.calm = true := by rfl) (he : starEach [e] X.env = (false, eval e X.env) :: starEach [] X.env := by rfl) (hpl : (backTo pos (starEach [] X.env)).any (·.1) = false := by rfl) :
    DR X (.Call (.Name "sorted" p) [e] [] pos) (fSortD f) := pe_imp (pe_callB (call_sortedDI hc) hg hm boot_sorted (pa_cons ha pa_nil he) (by decide) (by decide) he hpl) fun σ H Q ⟨Z, B, ρ, s, ρ', ok, e, q⟩ => by
  unfold fSortD at e
  obtain ⟨⟨s1, ρ1⟩, e1, e2⟩ := Option.bind_eq_some_iff.mp e
  split at e2
  · rename_i m z
    replace z : s1 = .ok m := z
    subst z
    obtain ⟨ks, e3, e4⟩ := Option.bind_eq_some_iff.mp e2
    split at e4
    · rename_i hl
      cases e4
      refine ⟨Z, B, ρ, _, _, ok, e1, fun B1 H1 v s1 ok1 rv => ?_⟩
      rcases rv with ⟨d, z, _⟩ | ⟨a, o, rfl, h1, h2, h3, h4, h5, _⟩
      · cases z
      · cases o with
        | dK l =>
          refine ⟨a, l, ks, rfl, .inl h1, (KvR.keys h5).trans (keysI_eq e3), hl, fun ys p g1 g2 hp => ?_⟩
          have e5 : ys = srtI ks := sorted_one (g1.trans (srtI_perm ks).symm) g2 (srtI_sorted ks)
          subst e5
          obtain ⟨ok4, r4⟩ := own_lst ok1 (DrAll.ints (H := B1) (srtI ks)) hp
          exact q B1 _ _ s1 ok4 r4
        | _ => exact h5.elim
    · cases e4
  · cases e2
end
@[simp] theorem fCat_eq (f g : FE) (ρ : En) : fCat f g ρ = (f ρ).bind fun p => (g p.2).bind fun q => match p.1, q.1 with
  | .list xs, .list ys => if xs.length + ys.length ≤ 16777216 then some (.ow (xs ++ ys), q.2) else none
  | _, _ => none := rfl
@[simp] theorem hInt_b (b : Bool) : hInt [.bool b] = some (.sh (.int (if b then 1 else 0))) := rfl
@[simp] theorem fLRng_eq (f : FE) (ρ : En) : fLRng f ρ = (f ρ).bind fun p => match p.1 with
  | .int j => if 0 ≤ j ∧ j ≤ 16000000 then some (.ow (rangeD 0 j.toNat), p.2) else none
  | _ => none := rfl

/-! GK9b: sum of a dict's values, a loop over a dict. -/
/-! ### sum(d.values()) -/
def ValsO (r d : Addr) : HO := .ext fun h => h.IsValuesView r d
def tVals (td : TE) : TE := fun σ H Q => td σ H fun x H1 => ∃ a kvs, x = .ref a ∧ Rd H1 a (.dK kvs) ∧ ∀ r, H1 r = none → Q (.ref r) (upd H1 r (ValsO r a))
section
variable {X : Cx} {e : Expr} {td : TE} {apos cpos pos p : Pos} {x : Str}
theorem pe_vals (he : PE X e td) (hbase : attributeBase e "values" X.env (eval e X.env) = eval e X.env := by rfl) (hline : (apos.endLine == cpos.line) = true := by rfl) : PE X (.Call (.Attribute e "values" apos) [] [] cpos) (tVals td) := by
  refine ⟨fun pins s0 σ H Q I h => ?_⟩
  refine wpAny_Call_method (T := "dict") (id := "dict.values") hbase rfl hline F.plainAttrs_dict F.slot_dict_values F.type_dict_values (thn (he.run pins s0 σ H _ I h) fun u s1 ⟨y, H1, I1, ry, a, kvs, ey, hd, q⟩ => ?_)
  subst ey
  obtain rfl : u = Value.ref a := ry
  obtain ⟨z, lo, vs, rel, dd⟩ := dk_rd I1.hok hd
  refine ⟨dd.typeIs, dd.mapOf.noDict, ?_⟩
  have view : (s1.heap.push { cls := .type "dict_values", data := .fields #[.ref a] }).IsValuesView s1.heap.objs.size a := ⟨_, Heap.get?_push_size _ rfl, rfl, rfl⟩
  have I2 : Inv X pins σ (upd H1 s1.heap.objs.size (ValsO s1.heap.objs.size a)) { s1 with heap := s1.heap.push { cls := .type "dict_values", data := .fields #[.ref a] } } :=
    I1.laid (t' := s1.toks) (fun _ _ w => Heap.get?_push_of_some _ w) (Nat.le_refl _) ⟨view, ⟨_, Heap.get?_push_size _ rfl⟩, fun h1 h2 ⟨o, g1, g2, g3⟩ st => ⟨o, st _ g1, g2, g3⟩⟩
  show wpAny _ _ (callWith cpos (.builtin "dict.values") [.ref a] [] []) _ X.xe s1
  exact method_meetsIn F.slot_dict_values F.entry_dict_values rfl (PySem.evalArgs_none ⟨rfl, dd.typeIs, F.args_dict_values_1 _, _, meets_dict_values (mixKind X.prog X.w) a lo, ⟨vs, dd⟩, ⟨.ref s1.heap.objs.size, _, I2, rfl, q _ (I1.hok.fresh (Nat.le_refl _))⟩⟩)
theorem preSum_ns : ∀ (ns : List Int), preSum (fun i => ns.getD i 0) ns.length = ns.sum
  | [] => rfl
  | n :: ns => by
    have ih := preSum_ns ns
    rw [List.length_cons, PySem.W.kdu_shift, List.sum_cons]
    have e1 : (fun i => (n :: ns).getD (i + 1) 0) = fun i => ns.getD i 0 := rfl
    rw [e1, ih]
    rfl
theorem cr_sumVals (hc : X.calm = true) : CallR X (.builtin "sum") (fun vs H Q => ∃ (r a : Addr) (kvs : List (Key × V)) (ns : List Int), vs = [V.ref r] ∧ H r = some (ValsO r a) ∧ Rd H a (.dK kvs) ∧ kvs.map (·.2) = ns.map V.int ∧ Q (.int ns.sum) H) := by
  intro pins s0 σ H vs us Q I rr h
  obtain ⟨r, a, kvs, ns, rfl, hr, hd, hv, q⟩ := h
  obtain ⟨u, rfl, ru⟩ := vals1 rr
  cases ru
  have view : s0.heap.IsValuesView r a := (I.hok r _ hr).1
  obtain ⟨z, lo, vs, rel, dd⟩ := dk_rd I.hok hd
  obtain ⟨ep, hat⟩ := dd.dictAt
  have hh : X.A.handled = none := I.ok.hd hc
  have hlen : vs.length = ns.length := by
    rw [← rel.length]
    have := congrArg List.length hv
    rw [List.length_map, List.length_map] at this
    exact this
  refine call_sum_walkAnyS ?_
  have Kd := PySem.W.kdl_values (prog := X.prog) (w := X.w) (r := r) (d := a) (knd := mixKind X.prog X.w) (kvs := vs) (ep := ep)
  obtain ⟨oI, St, hit, W, st⟩ := Kd.iter X.A.in1 s0 hh ⟨view, hat⟩
  refine hit _ _ ⟨s0.heap.objs.size, _, _, _, vs.length, _, _, fun i => ns.getD i 0, rfl, W.toS, st, fun b hb => ?_, fun i v ⟨k, hk⟩ => ?_, fun s' t' hm => ?_⟩
  · show b < (s0.heap.push oI).objs.size
    rw [size_push']
    rcases List.mem_cons.mp hb with e | hb
    · rw [e]
      exact Nat.lt_succ_self _
    · rw [List.mem_singleton.mp hb]
      exact Nat.lt_succ_of_lt (Kd.there _ ⟨view, hat⟩).2
  · have hi : i < vs.length := (List.getElem?_eq_some_iff.mp hk).1
    have hi2 : i < kvs.length := by rw [rel.length]; exact hi
    obtain ⟨⟨k', w⟩, hw⟩ : ∃ y, kvs[i]? = some y := ⟨kvs[i], List.getElem?_eq_getElem hi2⟩
    obtain ⟨u, hu, ru⟩ := kv_get rel hw
    have e1 : (kvs.map (·.2))[i]? = some w := by rw [List.getElem?_map, hw]; rfl
    rw [hv, List.getElem?_map] at e1
    obtain ⟨m, hm, rfl⟩ := Option.map_eq_some_iff.mp e1
    rw [hk] at hu
    cases hu
    obtain ⟨t, rfl⟩ := ru
    refine ⟨t, ?_⟩
    show Value.int m t = Value.int (ns.getD i 0) t
    rw [List.getD_eq_getElem?_getD, hm]
    rfl
  · have hk : ∀ b o, s0.heap.get? b = some o → s'.heap.get? b = some o := fun b o e =>
      hm.heap b o (fun hI => absurd (Heap.lt_size e) (by rw [List.mem_singleton.mp hI]; exact Nat.lt_irrefl _)) (Heap.get?_push_of_some _ e)
    rw [Moved.eq_with hm]
    refine ⟨.int ns.sum, H, I.kept (t' := s'.toks) hk, ⟨t', ?_⟩, q⟩
    rw [hlen, preSum_ns]
end
def valsI : List (Key × PyData) → Option (List Int)
  | [] => some []
  | (_, .int i) :: m => (valsI m).map (i :: ·)
  | _ => none
theorem KvR.valsI {B : Hp} : ∀ {l : List (Key × V)} {m : List (Key × PyData)} {ns : List Int}, KvR B l m → G.valsI m = some ns → l.map (·.2) = ns.map V.int
  | _, _, ns, .nil, h => by cases h; rfl
  | _, _, ns, .cons (d := d) (m := m) hd t, h => by
    cases hd with
    | int i =>
      obtain ⟨r, h1, h2⟩ := Option.map_eq_some_iff.mp (show (G.valsI m).map (i :: ·) = some ns from h)
      subst h2
      rw [List.map_cons, KvR.valsI t h1]
      rfl
    | _ => cases h
def fSumV (i : Nat) : FE := fun ρ => match ρ[i]? with
  | some (.ok m) => (valsI m).map fun ns => (.int ns.sum, ρ)
  | _ => none
theorem de_sumV {X : Cx} {px apos cpos pos p : Pos} {x : Str} (i : Nat) (hm : X.mg "sum" = none) (hN : X.N[i]? = some x := by rfl) (hv : Vis X.env.scope x := by first | exact Or.inl rfl | exact Or.inr (Or.inl rfl) | exact Or.inr (Or.inr rfl)) (hd : (x == ("__debug__" : Str)) = false := by decide)
    (hcd : (x == ("__classdict__" : Str)) = false := by decide) (hg : Gl X "sum" := by rfl) (hc : X.calm = true := by rfl)
    (hbase : attributeBase (.Name x px) "values" X.env (eval (.Name x px) X.env) = eval (.Name x px) X.env := by rfl) (hline : (apos.endLine == cpos.line) = true := by rfl)
    (he : starEach [.Call (.Attribute (.Name x px) "values" apos) [] [] cpos] X.env = (false, eval (.Call (.Attribute (.Name x px) "values" apos) [] [] cpos) X.env) :: starEach [] X.env := by rfl) (hpl : (backTo pos (starEach [] X.env)).any (·.1) = false := by rfl) :
    DE X (.Call (.Name "sum" p) [.Call (.Attribute (.Name x px) "values" apos) [] [] cpos] [] pos) (fSumV i) :=
  pe_imp (pe_callB (cr_sumVals hc) hg hm boot_sum (pa_cons (pe_vals (pe_var hN hv hd hcd) hbase hline) pa_nil he) (by decide) (by decide) he hpl) fun σ H Q ⟨Z, B, ρ, d, ρ', ok, e, q⟩ => by
  unfold fSumV at e
  split at e
  · rename_i m h
    obtain ⟨ns, e1, e2⟩ := Option.map_eq_some_iff.mp e
    cases e2
    obtain ⟨a, o, q1, q2, q3, q4, q5⟩ := ok.ow i _ h rfl
    cases o with
    | dK l =>
      refine ⟨.ref a, q1, a, l, rfl, .inl q2, fun r hr => ?_⟩
      have ne : a ≠ r := ne_of_none q2 hr
      refine ⟨r, a, l, ns, rfl, upd_same, .inl (by rw [upd_ne ne]; exact q2), KvR.valsI q5 e1, ?_⟩
      exact q B _ _ (Same.refl B) (ok.junk hr) (.int _)
    | _ => exact q5.elim
  · cases e
/-! ### for k in d -/
def kD : Key → PyData
  | .inl i => .int i
  | .inr x => .str x
def nolk (ρ : En) : Bool := ρ.all fun s => match s with
  | .lk _ => false
  | .lt _ => false
  | _ => true
def erB (B : Hp) (a : Addr) : Hp := fun b => if b = a then none else B b
theorem erB_self (B : Hp) (a : Addr) : erB B a a = none := if_pos rfl
theorem erB_ne {B : Hp} {a b : Addr} (h : b ≠ a) : erB B a b = B b := if_neg h
mutual
theorem dr_er {B : Hp} {a : Addr} {od : Obj} {u : HO} (hB : B a = some (.frz od u)) : ∀ (d : PyData) (v : V), Dr B v d → Dr (erB B a) v d
  | .none, _, h => by cases h; exact .non
  | .bool b, _, h => by cases h; exact .bl b
  | .int i, _, h => by cases h; exact .int i
  | .str x, _, h => by cases h; exact .str x
  | .list ds, _, h => by
    cases h with
    | lst hs ha => exact .lst (by rw [erB_ne (ne_of hs hB (fun z => nomatch z))]; exact hs) (drAll_er hB ds _ ha)
  | .tuple ds, _, h => by
    cases h with
    | tup hs ha => exact .tup (by rw [erB_ne (ne_of hs hB (fun z => nomatch z))]; exact hs) (drAll_er hB ds _ ha)
  | .dict _, _, h => by cases h
theorem drAll_er {B : Hp} {a : Addr} {od : Obj} {u : HO} (hB : B a = some (.frz od u)) : ∀ (ds : List PyData) (vs : List V), DrAll B vs ds → DrAll (erB B a) vs ds
  | [], _, h => by cases h; exact .nil
  | d :: ds, _, h => by
    cases h with
    | cons h1 h2 => exact .cons (dr_er hB d _ h1) (drAll_er hB ds _ h2)
end
theorem kvR_er {B : Hp} {a : Addr} {od : Obj} {u : HO} (hB : B a = some (.frz od u)) {κ : Type} : ∀ {l : List (κ × V)} {m : List (κ × PyData)}, KvR B l m → KvR (erB B a) l m
  | _, _, .nil => .nil
  | _, _, .cons h t => .cons (dr_er hB _ _ h) (kvR_er hB t)
theorem ownR_er {B : Hp} {a : Addr} {od : Obj} {u : HO} (hB : B a = some (.frz od u)) {o : HO} {s : Sl} (h : OwnR B o s) : OwnR (erB B a) o s := by
  cases s with
  | lk m => exact h.elim
  | lt m => exact h.elim
  | pi => exact h.elim
  | un => exact h.elim
  | ad v => exact h.elim
  | sh d => exact h.elim
  | ow xs => cases o <;> first | exact h.elim | exact drAll_er hB _ _ h
  | io xs => cases o <;> first | exact h.elim | exact drAll_er hB _ _ h
  | ok m => cases o <;> first | exact h.elim | exact kvR_er hB h
  | ot m => cases o <;> first | exact h.elim | exact kvR_er hB h
section
variable {Z : Zn} {B : Hp} {σ : L2.St} {H : Hp} {ρ : En} {i : Nat}
theorem EnvOk.unlock (ok : EnvOk Z B σ H ρ) {a : Addr} {od : Obj} {u : HO} (hB : B a = some (.frz od u)) (hz : Z.fr a = none) (nl : nolk ρ = true) : EnvOk Z (erB B a) σ (upd H a u) ρ := by
  have nla : ∀ (j : Nat) s, ρ[j]? = some s → (∀ m, s ≠ .lk m) ∧ ∀ m, s ≠ .lt m := fun j s e => by
    have := List.all_eq_true.mp nl _ (List.mem_of_getElem? e)
    refine ⟨fun m z => ?_, fun m z => ?_⟩ <;> (subst z; cases this)
  refine ⟨fun b o e => ?_, fun b o e => ?_, fun b o e => ?_, ok.len, fun j d e => ?_, fun j s e1 e2 => ?_, ok.io, fun j s e => ?_, ok.inj⟩
  · by_cases h : b = a
    · subst h
      rw [erB_self] at e
      cases e
    · rw [erB_ne h] at e
      rw [upd_ne h]
      exact ok.le b o e
  · rw [upd_ne (ne_of_none e hz)]
    exact ok.lz b o e
  · rw [erB_ne (ne_of_none e hz)]
    exact ok.dj b o e
  · obtain ⟨v, h1, h2⟩ := ok.sh j d e
    exact ⟨v, h1, dr_er hB _ _ h2⟩
  · obtain ⟨b, o, h1, h2, h3, h4, h5⟩ := ok.ow j s e1 e2
    have ne : b ≠ a := fun z => by
      subst z
      rw [hB] at h3
      cases h3
    exact ⟨b, o, h1, by rw [upd_ne ne]; exact h2, by rw [erB_ne ne]; exact h3, h4, ownR_er hB h5⟩
  · have := ok.ad j s e
    cases s with
    | lk m => exact ((nla j _ e).1 m rfl).elim
    | lt m => exact ((nla j _ e).2 m rfl).elim
    | ad v => exact this
    | pi => exact this
    | _ => trivial
theorem EnvOk.lockD (ok : EnvOk Z B σ H ρ) {m : List (Key × PyData)} (h : ρ[i]? = some (.ok m)) : ∃ a l, σ[i]? = some (some (.ref a)) ∧ H a = some (.dK l) ∧ B a = none ∧ Z.fr a = none ∧ KvR B l m ∧
    ∀ od, Same B (upd B a (.frz od (.dK l))) ∧ EnvOk Z (upd B a (.frz od (.dK l))) σ (upd H a (.frz od (.dK l))) (ρ.set i (.lk m)) := by
  obtain ⟨a, o, q1, q2, q3, q4, q5⟩ := ok.ow i _ h rfl
  cases o with
  | dK l =>
    refine ⟨a, l, q1, q2, q3, q4, q5, fun od => ?_⟩
    have sb : Same B (upd B a (.frz od (.dK l))) := same_upd_new q3
    have hn : NotOwn σ (ρ.set i .un) a := fun j s e1 e2 e3 => by
      rcases getElem?_set_cases e1 with ⟨rfl, z2, z3⟩ | ⟨z1, z2⟩
      · subst z2
        cases e2
      · exact z1 (ok.inj j i s _ a z2 e2 h rfl e3 q1)
    have f1 := (ok.forget i).other (o := .frz od (.dK l)) q3 q4 hn
    have f2 := f1.freeze upd_same q3 q4 hn
    have f3 := EnvOk.setAd f2 i (s := .lk m) rfl (fun d z => nomatch z) (fun d z => nomatch z) ⟨a, od, l, q1, upd_same, KvR.mono sb q5⟩
    rw [List.set_set] at f3
    exact ⟨sb, f3⟩
  | _ => exact q5.elim
theorem wk_keys {B0 : Hp} {a : Addr} {od : Obj} {l : List (Key × V)} {m : List (Key × PyData)} (h : B0 a = some (.frz od (.dK l))) (hk : KvR B0 l m) : Wk (Itk a od l) B0 (m.map fun p => kD p.1) := fun Z B1 σ H ρ i s1 ok => by
  have hH : H a = some (.frz od (.dK l)) := ok.le _ _ (s1 _ _ h)
  have hl := KvR.length hk
  have hks := KvR.keys hk
  refine ⟨fun e => ⟨hH, by rw [List.length_map] at e; omega⟩, fun d e => ?_⟩
  have hi : i < m.length := by
    have := (List.getElem?_eq_some_iff.mp e).1
    rw [List.length_map] at this
    exact this
  refine ⟨⟨hH, by omega⟩, fun x H' ⟨e1, k, v, e2, e3⟩ => ?_⟩
  subst e1 e3
  have e4 : (l.map (·.1))[i]? = some k := by rw [List.getElem?_map, e2]; rfl
  rw [hks, List.getElem?_map] at e4
  obtain ⟨y, e5, e6⟩ := Option.map_eq_some_iff.mp e4
  rw [List.getElem?_map, e5] at e
  have e7 : kD y.1 = d := Option.some.inj e
  refine ⟨B1, Same.refl B1, ok, ?_⟩
  rw [← e7, e6]
  cases k with
  | inl j => exact .int j
  | inr x => exact .str x
end
def fForD (i : Nat) (g : FG) (F : FS) : FS := fun ρ => match ρ[i]? with
  | some (.ok m) => (forL g F (m.map fun p => kD p.1) (ρ.set i (.lk m))).bind fun o => match o with
    | .nx ρ' => if nolk (ρ'.set i .un) = true then some (.nx (ρ'.set i .un)) else none
    | _ => none
  | _ => none
theorem ds_forD {X : Cx} {tg : Expr} {body : List Stmt} {js : List Nat} {g : FG} {F : FS} {pos px : Pos} {x : Str} (i : Nat) (hg : DG X tg js g) (hb : DSs X body F) (hN : X.N[i]? = some x := by rfl) (hv : Vis X.env.scope x := by first | exact Or.inl rfl | exact Or.inr (Or.inl rfl) | exact Or.inr (Or.inr rfl)) (hd : (x == ("__debug__" : Str)) = false := by decide)
    (hcd : (x == ("__classdict__" : Str)) = false := by decide) (hc : X.calm = true := by rfl) (hp : PassesOwn (model X.prog X.w) X.A X.env X.xe := by exact PassesOwn.never)
    (hs : ∀ y, foldedSetIterable (.Name x px) X.env y = pure y := by intro _; rfl) : DS X (.For tg (.Name x px) body [] pos) (fForD i g F) :=
  ps_imp (ps_lock (ps_for hp hc (pi_keys (pe_var hN hv hd hcd)) hg hb hs)) fun D σ H ⟨Z, B, ρ, o, ok, q0, q⟩ => by
  unfold fForD at q0
  split at q0
  · rename_i m h
    obtain ⟨o1, e1, e2⟩ := Option.bind_eq_some_iff.mp q0
    split at e2
    · rename_i ρ'
      split at e2
      · rename_i nl
        cases e2
        obtain ⟨a, l, q1, q2, q3, q4, q5, q6⟩ := ok.lockD h
        refine ⟨a, .dK l, q2, trivial, fun od => ?_⟩
        obtain ⟨sb, ok1⟩ := q6 od
        have hB0 : (upd B a (HO.frz od (.dK l))) a = some (.frz od (.dK l)) := upd_same
        generalize upd B a (HO.frz od (.dK l)) = B0 at *
        have hk0 := KvR.mono sb q5
        have wk := wk_keys hB0 hk0
        refine ⟨.ref a, q1, a, od, rfl, .inl ⟨l, upd_same, ?_⟩⟩
        refine ⟨fun k mm σ2 H2 => mm = (m.map fun p => kD p.1).length - k ∧ k ≤ (m.map fun p => kD p.1).length ∧ ∃ B2 ρ2, Same B0 B2 ∧ EnvOk Z B2 σ2 H2 ρ2 ∧ forL g F ((m.map fun p => kD p.1).drop k) ρ2 = some (.nx ρ'), ⟨_, rfl, Nat.zero_le _, B0, _, Same.refl B0, ok1, by rw [List.drop_zero]; exact e1⟩, fun k mm σ2 H2 hW => ?_⟩
        obtain ⟨rfl, hk, B2, ρ2, s2, ok2, hf⟩ := hW
        have fin : ∀ {B3 : Hp} {σ3 : L2.St} {H3 : Hp}, Same B0 B3 → EnvOk Z B3 σ3 H3 ρ' → H3 a = some (.frz od (.dK l)) ∧ D.nx σ3 (upd H3 a (.dK l)) := fun {B3 σ3 H3} s3 ok3 => by
          have hB3 := s3 _ _ hB0
          refine ⟨ok3.le _ _ hB3, ?_⟩
          have hu : EnvOk Z (erB B3 a) σ3 (upd H3 a (.dK l)) (ρ'.set i .un) := EnvOk.unlock (ok3.forget i) hB3 q4 nl
          refine q (erB B3 a) (fun b u e => ?_) σ3 _ hu
          rw [erB_ne (ne_of_none e q3)]
          exact s3 _ _ (sb _ _ e)
        by_cases hlt : k < (m.map fun p => kD p.1).length
        · obtain ⟨d, h1, h2⟩ := drop_at hlt
          rw [h2] at hf
          obtain ⟨ρ3, e3, e4⟩ := Option.bind_eq_some_iff.mp hf
          obtain ⟨o3, e5, e6⟩ := Option.bind_eq_some_iff.mp e4
          obtain ⟨go, yl⟩ := (wk Z B2 σ2 H2 ρ2 k s2 ok2).2 d h1
          refine .inr ⟨go, fun σ' H' => ∃ B4 ρ4, Same B0 B4 ∧ EnvOk Z B4 σ' H' ρ4 ∧ forL g F ((m.map fun p => kD p.1).drop (k + 1)) ρ4 = some (.nx ρ'), fun σ' H' hN' => ⟨_, by omega, rfl, hlt, hN'⟩, fun y H' hy => ?_⟩
          obtain ⟨B3, s3, ok3, dx⟩ := yl y H' hy
          refine ⟨Z, B3, ρ2, d, ρ3, ok3, dx, e3, fun σ3 ok4 _ => ⟨Z, B3, ρ3, o3, ok4, e5, fun B4 s4 => ?_⟩⟩
          cases o3 with
          | nx ρ4 => exact fun σ5 H5 ok5 => ⟨B4, ρ4, s2.trans (s3.trans s4), ok5, e6⟩
          | ct ρ4 => exact fun σ5 H5 ok5 => ⟨B4, ρ4, s2.trans (s3.trans s4), ok5, e6⟩
          | bk ρ4 =>
            cases e6
            exact fun σ5 H5 ok5 => fin (s2.trans (s3.trans s4)) ok5
          | rt s ρ4 => cases e6
        · have e : k = (m.map fun p => kD p.1).length := by omega
          rw [e, List.drop_length] at hf
          cases hf
          exact .inl ⟨(wk Z B2 σ2 H2 _ k s2 ok2).1 e, fin s2 ok2⟩
      · cases e2
    · cases e2
  · cases q0
/-! ### name = {k: v for ..} -/
section
variable {X : Cx}
theorem ps_asgDc {i : Nat} {y : Str} {py : Pos} {kx vx tg it : Expr} {ifs : List Expr} {scope : Scope} {own : List (Str × Nat)} {pos spos : Pos} {wi : TI} {g : TG} {tt : TT} {tk tv : TE} (hc : X.calm = true) (hN : X.N.Nodup) (hy : X.N[i]? = some y) (hyl : X.env.scope.names.lookup y = some .local)
    (hsw : swapsWith (.DictComp kx vx [⟨tg, it, ifs, 0⟩] scope pos) (some (.Name y py)) spos.line X.env = pure true) (hi : PI X tg it wi) (ok : BlkOk X.N X.env.scope scope own)
    (hg : ∀ (s : Shared) (H : Hp) (C : Addr) (cl : List (Str × Addr)) (fp : List Addr), PG (X.blk s H scope (compEnvC scope cl C X.env) fp) tg g)
    (ht : ∀ (s : Shared) (H : Hp) (C : Addr) (cl : List (Str × Addr)) (fp : List Addr), PTs (X.blk s H scope (compEnvC scope cl C X.env) fp) ifs tt)
    (hk : ∀ (s : Shared) (H : Hp) (C : Addr) (cl : List (Str × Addr)) (fp : List Addr), PE (X.blk s H scope (compEnvC scope cl C X.env) fp) kx tk)
    (he : ∀ (s : Shared) (H : Hp) (C : Addr) (cl : List (Str × Addr)) (fp : List Addr), PE (X.blk s H scope (compEnvC scope cl C X.env) fp) vx tv)
    (hs : ∀ x, foldedSetIterable it X.env x = pure x := by intro _; rfl) : PS X (.Assign [.Name y py] (.DictComp kx vx [⟨tg, it, ifs, 0⟩] scope pos) spos) (tAsg (tDc wi g tt tk tv (own.map (·.2))) (gName i)) := by
  refine ⟨fun pins s0 σ H D I h => ?_⟩
  rw [exec_Assign_Name_used _ _ _ _ hsw]
  refine wpAny_bind (wpAny_standAt (wpAny_bind ?_))
  show wpAny _ X.A (do let _ ← comprehension (.DictComp kx vx [⟨tg, it, ifs, 0⟩] scope pos) scope X.env (firstIterPos [⟨tg, it, ifs, 0⟩] pos) newDict false (eval it X.env) (some (assign (.Name y py) X.env))) _ _ s0
  have h' : tDc wi g tt tk tv (own.map (·.2)) σ H (fun x H1 => gName i x σ H1 D.nx) := h
  refine wpAny_bind (thn (dc_core (Qf := fun _ s' => SP X pins D .next s') hc hN I hi ok hg ht hk he hs h' fun L C s' m H' I' q hn f => ?_) fun _ s' z => wpAny_pure (wpAny_pure z))
  show wpAny _ _ (assign (.Name y py) X.env (.ref L)) _ _ _
  refine wpAny_assign_Name (store_ok2 (v := V.ref L) I' hN hy (.inl hyl) rfl (fun s2 I2 ⟨c, sb, hc'⟩ => ?_) (.inr hyl))
  obtain ⟨f0, f1, f2, f3, f4, f5⟩ := f
  have ne : C ≠ c := by
    rcases hc' with z | z
    · rw [z]
      exact f1
    · exact fun e => f4 y c z e.symm
  exact ⟨m, hn.sameBut sb ne, fun h3 sb3 => ⟨_, H', I2.turned (t' := s2.toks) (fun b o hb e => (sb3.2 b hb).trans e) f0 f1 f3 f4 f5, q⟩⟩
theorem sw_trueD {kx vx : Expr} {gs : List Comprehension} {scope : Scope} {pos py : Pos} {y : Str} {l : Nat} {env : Env} (hk : env.scope.kind = .function) (hy : env.scope.names.lookup y = some .local) (hl : (py.line == pos.line) = true)
    (ha : (scope.names.any fun (n, k) => n == y && (k == .local || k == .cell)) = false) : swapsWith (.DictComp kx vx gs scope pos) (some (.Name y py)) l env = pure true := by
  have k1 : env.kindOf y = some .local := hy
  have k2 : env.blockKind = .function := by
    unfold Env.blockKind
    rw [hk]
    rfl
  unfold swapsWith
  simp only [k2, k1, ha, Expr.pos, hl]
  rfl
theorem ds_setDc (i : Nat) {y : Str} {py : Pos} {kx vx tg it : Expr} {ifs : List Expr} {scope : Scope} {own : List (Str × Nat)} {pos spos : Pos} {fi : FI} {g : FG} {tt : FT} {tk tv : FE} {js vs : List Nat} (hN : X.N.Nodup)
    (hsw : swapsWith (.DictComp kx vx [⟨tg, it, ifs, 0⟩] scope pos) (some (.Name y py)) spos.line X.env = pure true) (hi : DI X tg it fi) (ok : BlkOk X.N X.env.scope scope own)
    (hg : ∀ (s : Shared) (H : Hp) (C : Addr) (cl : List (Str × Addr)) (fp : List Addr), DG (X.blk s H scope (compEnvC scope cl C X.env) fp) tg js g)
    (ht : ∀ (s : Shared) (H : Hp) (C : Addr) (cl : List (Str × Addr)) (fp : List Addr), DTs (X.blk s H scope (compEnvC scope cl C X.env) fp) ifs tt)
    (hk : ∀ (s : Shared) (H : Hp) (C : Addr) (cl : List (Str × Addr)) (fp : List Addr), DE (X.blk s H scope (compEnvC scope cl C X.env) fp) kx tk)
    (he : ∀ (s : Shared) (H : Hp) (C : Addr) (cl : List (Str × Addr)) (fp : List Addr), DE (X.blk s H scope (compEnvC scope cl C X.env) fp) vx tv)
    (hy : X.N[i]? = some y := by rfl) (hyl : X.env.scope.names.lookup y = some .local := by rfl)
    (hc : X.calm = true := by rfl) (hv : own.map (·.2) = vs := by rfl) (hj : ∀ j ∈ js, j ∈ vs := by decide) (hs : ∀ x, foldedSetIterable it X.env x = pure x := by intro _; rfl) :
    DS X (.Assign [.Name y py] (.DictComp kx vx [⟨tg, it, ifs, 0⟩] scope pos) spos) (fSet i (fDc vs fi g tt tk tv)) := by
  subst hv
  refine ps_imp (ps_asgDc hc hN hy hyl hsw hi ok hg ht hk he hs) fun D σ H ⟨Z, B, ρ, o, ok, e, q⟩ => ?_
  unfold fSet at e
  obtain ⟨⟨s, ρ1⟩, e1, e2⟩ := Option.map_eq_some_iff.mp e
  cases e2
  exact tDc_of hj σ H _ ⟨Z, B, ρ, s, ρ1, ok, e1, fun B1 H1 v s1 ok1 r1 => q B1 s1 _ H1 (ok1.setR i r1)⟩
end

def b_is_whole : FS := fRet (fSh (fAndV (fUn (hIsi "int") (fVar 0)) (fUn hNot (fUn (hIsi "bool") (fVar 0)))))
def F_is_whole : List PyData → Option Sl := runF 1 b_is_whole
def b_is_within : FS := fRet (fSh (fAndV (fFz (fCallR 1 F_is_whole (fCons (fVar 0) (fNil)))) (fChain hLe hLe (fVar 1) (fVar 0) (fVar 2))))
def F_is_within : List PyData → Option Sl := runF 3 b_is_within
def b_look_at_slack : FS := fIf (fNotT (fB (fFz (fCallR 3 F_is_within (fCons (fVar 0) (fCons (fC (.int 0)) (fCons (fC (.int 20)) (fNil)))))))) (fNev) (fNext)
def F_look_at_slack : List PyData → Option Sl := runF 1 b_look_at_slack
def b_are_moved : FS := fSeq (fIf (fOrT (fNotT (fB (fUn (hIsi "list") (fVar 0)))) (fB (fBin hGt (fFz (fCall hLen (fCons (fVar 0) (fNil)))) (fC (.int 40))))) (fRet (fSh (fC (.bool false)))) (fNext))
    (fRet (fCall hAll (fCons (fFz (fLc [1] (fItems (fVar 0)) (gVar 1) (fYes) (fFz (fCallR 3 F_is_within (fCons (fVar 1) (fCons (fBin hSub (fC (.int 0)) (fC (.int 1000000000000))) (fCons (fC (.int 1000000000000)) (fNil)))))))) (fNil))))
def F_are_moved : List PyData → Option Sl := runF 2 b_are_moved
def b_turns_to : FS := fSeq (fIf (fB (fBin hGt (fVar 2) (fC (.int 0)))) (fRet (fLst (fCons (fTup (fCons (fBin hSub (fBin hAdd (fVar 2) (fVar 0)) (fVar 1)) (fCons (fVar 0) (fNil)))) (fNil)))) (fNext))
    (fSeq (fIf (fB (fBin hLt (fVar 2) (fC (.int 0)))) (fRet (fLst (fCons (fTup (fCons (fBin hSub (fVar 2) (fVar 1)) (fCons (fC (.int 0)) (fNil)))) (fNil)))) (fNext))
    (fRet (fLc [3] (fRg rg1 (fCons (fBin hAdd (fVar 0) (fC (.int 1))) (fNil))) (gVar 3) (fYes) (fTup (fCons (fBin hSub (fVar 3) (fVar 1)) (fCons (fVar 3) (fNil)))))))
def F_turns_to : List PyData → Option Sl := runF 4 b_turns_to
def b_look_at_moved : FS := fSeq (fDrop (fFz (fCallR 1 F_look_at_slack (fCons (fVar 0) (fNil)))))
    (fIf (fNotT (fB (fFz (fCallR 1 F_are_moved (fCons (fVar 1) (fNil)))))) (fNev) (fNext))
def F_look_at_moved : List PyData → Option Sl := runF 2 b_look_at_moved
def b_turns_seen_1 : FS := fSeq (fSet 5 (fLc2 [6, 7] [7] (fItems (fVar 3)) (gVar 6) (fYes) (fItems (fFz (fCallR 3 F_turns_to (fCons (fVar 0) (fCons (fVar 6) (fCons (fVar 4) (fNil))))))) (gVar 7) (fYes) (fVar 7)))
    (fSeq (fAppend 2 (fTup (fCons (fFz (fCall hMin (fCons (fFz (fLc [7] (fItems (fVar 5)) (gVar 7) (fYes) (fBin hIx (fVar 7) (fC (.int 0))))) (fNil)))) (fCons (fFz (fCall hMax (fCons (fFz (fLc [7] (fItems (fVar 5)) (gVar 7) (fYes) (fBin hIx (fVar 7) (fC (.int 0))))) (fNil)))) (fNil)))))
    (fSet 3 (fSortD (fDc [7] (fItems (fVar 5)) (gVar 7) (fYes) (fBin hIx (fVar 7) (fC (.int 1))) (fC (.bool true))))))
def b_turns_seen : FS := fSeq (fDrop (fFz (fCallR 2 F_look_at_moved (fCons (fVar 0) (fCons (fVar 1) (fNil))))))
    (fSeq (fSet 2 (fLst (fNil)))
    (fSeq (fSet 3 (fLRng (fBin hAdd (fVar 0) (fC (.int 1)))))
    (fSeq (fFor (fItems (fVar 1)) (gVar 4) (b_turns_seen_1))
    (fRet (fGive 2)))))
def F_turns_seen : List PyData → Option Sl := runF 8 b_turns_seen
def b_how_many_1 : FS := fDPut 4 (fVar 7) (fBin hAdd (fDGet2 4 (fVar 7) (fC (.int 0))) (fDGet 2 (fVar 5)))
def b_how_many_2 : FS := fFor (fItems (fFz (fCallR 3 F_turns_to (fCons (fVar 0) (fCons (fVar 5) (fCons (fVar 3) (fNil))))))) (gTu 2 (gCo (gVar 6) (gCo (gVar 7) (gNo)))) (b_how_many_1)
def b_how_many_3 : FS := fSeq (fSet 4 (fDNewK))
    (fSeq (fForD 2 (gVar 5) (b_how_many_2))
    (fSet 2 (fGive 4)))
def b_how_many : FS := fSeq (fDrop (fFz (fCallR 2 F_look_at_moved (fCons (fVar 0) (fCons (fVar 1) (fNil))))))
    (fSeq (fSet 2 (fDc [5] (fRg rg1 (fCons (fBin hAdd (fVar 0) (fC (.int 1))) (fNil))) (gVar 5) (fYes) (fVar 5) (fC (.int 1))))
    (fSeq (fFor (fItems (fVar 1)) (gVar 3) (b_how_many_3))
    (fRet (fSh (fSumV 2)))))
def F_how_many : List PyData → Option Sl := runF 8 b_how_many
def b__law_well : FS := fSeq (fIf (fB (fBin hGe (fVar 0) (fBin hPow (fC (.int 10)) (fC (.int 18))))) (fRet (fLst (fCons (fBin hSub (fVar 0) (fBin hPow (fC (.int 10)) (fC (.int 18)))) (fCons (fBin hMod (fVar 0) (fC (.int 2305843009213693951))) (fCons (fVar 1) (fNil)))))) (fNext))
    (fRet (fLst (fCons (fC (.int 0)) (fCons (fBin hMod (fVar 0) (fC (.int 2305843009213693951))) (fCons (fVar 1) (fNil))))))
def F__law_well : List PyData → Option Sl := runF 2 b__law_well
def b__law_take : FS := fSeq (fIf (fB (fBin hGt (fIxO 0 (fC (.int 0))) (fC (.int 0)))) (fSeq (fSet 4 (fSh (fBin hMod (fIxO 0 (fC (.int 0))) (fVar 1))))
    (fSeq (fPut 0 (fC (.int 0)) (fBin hDiv (fIxO 0 (fC (.int 0))) (fVar 1)))
    (fRet (fSh (fVar 4))))) (fNext))
    (fSeq (fPut 0 (fC (.int 2)) (fBin hAdd (fIxO 0 (fC (.int 2))) (fC (.int 1))))
    (fSeq (fSet 2 (fSh (fC (.int 2305843009213693951))))
    (fSeq (fSet 3 (fSh (fBin hMod (fBin hAdd (fIxO 0 (fC (.int 1))) (fBin hMul (fC (.int 1000003)) (fIxO 0 (fC (.int 2))))) (fVar 2))))
    (fSeq (fSet 3 (fSh (fBin hMod (fBin hAdd (fBin hAdd (fBin hMul (fVar 3) (fVar 3)) (fBin hMul (fC (.int 7919)) (fBin hPow (fIxO 0 (fC (.int 2))) (fC (.int 2))))) (fC (.int 5))) (fVar 2))))
    (fRet (fSh (fBin hMod (fBin hDiv (fBin hMod (fBin hPow (fVar 3) (fC (.int 3))) (fVar 2)) (fC (.int 13))) (fVar 1))))))))
def F__law_take : FBag := runB 5 b__law_take
def b__law_same (F__law_same : List PyData → Option Sl) : FS := fSeq (fIf (fOrT (fAndT (fB (fUn (hIsi "list") (fVar 0))) (fB (fUn (hIsi "list") (fVar 1)))) (fAndT (fB (fUn (hIsi "tuple") (fVar 0))) (fB (fUn (hIsi "tuple") (fVar 1))))) (fRet (fSh (fAndV (fBin hEq (fFz (fCall hLen (fCons (fVar 0) (fNil)))) (fFz (fCall hLen (fCons (fVar 1) (fNil))))) (fFz (fCall hAll (fCons (fFz (fLc [2, 3] (fRg zp2 (fCons (fVar 0) (fCons (fVar 1) (fNil)))) (gTu 2 (gCo (gVar 2) (gCo (gVar 3) (gNo)))) (fYes) (fFz (fCallR 2 F__law_same (fCons (fVar 2) (fCons (fVar 3) (fNil))))))) (fNil))))))) (fNext))
    (fSeq (fIf (fOrT (fB (fUn (hIsiT ["bool", "list", "tuple"]) (fVar 0))) (fB (fUn (hIsiT ["bool", "list", "tuple"]) (fVar 1)))) (fRet (fSh (fAndV (fUn (hIsi "bool") (fVar 0)) (fAndV (fUn (hIsi "bool") (fVar 1)) (fBin hEq (fVar 0) (fVar 1)))))) (fNext))
    (fSeq (fIf (fOrT (fB (fUn (hIsi "int") (fVar 0))) (fB (fUn (hIsi "int") (fVar 1)))) (fRet (fSh (fAndV (fUn (hIsi "int") (fVar 0)) (fAndV (fUn (hIsi "int") (fVar 1)) (fBin hEq (fVar 0) (fVar 1)))))) (fNext))
    (fSeq (fIf (fOrT (fB (fUn (hIsi "str") (fVar 0))) (fB (fUn (hIsi "str") (fVar 1)))) (fRet (fSh (fAndV (fUn (hIsi "str") (fVar 0)) (fAndV (fUn (hIsi "str") (fVar 1)) (fBin hEq (fVar 0) (fVar 1)))))) (fNext))
    (fRet (fSh (fAndV (fUn hIsN (fVar 0)) (fUn hIsN (fVar 1))))))))
def F__law_same : Nat → List PyData → Option Sl
  | 0 => fun _ => none
  | n + 1 => runF 4 (b__law_same (F__law_same n))
def b__law_rows_1 : FS := fIf (fB (fBin hEq (fVar 3) (fC (.int 0)))) (fSet 4 (fCat (fVar 4) (fFz (fLc [7] (fRg rg1 (fCons (fBin hAdd (fVar 0) (fC (.int 1))) (fNil))) (gVar 7) (fYes) (fTup (fCons (fVar 7) (fCons (fBin hAdd (fVar 6) (fFz (fLst (fCons (fBin hSub (fVar 7) (fVar 5)) (fNil))))) (fNil)))))))) (fIf (fB (fBin hGt (fVar 3) (fC (.int 0)))) (fAppend 4 (fTup (fCons (fVar 0) (fCons (fBin hAdd (fVar 6) (fFz (fLst (fCons (fBin hSub (fBin hAdd (fVar 3) (fVar 0)) (fVar 5)) (fNil))))) (fNil))))) (fAppend 4 (fTup (fCons (fC (.int 0)) (fCons (fBin hAdd (fVar 6) (fFz (fLst (fCons (fBin hSub (fVar 3) (fVar 5)) (fNil))))) (fNil))))))
def b__law_rows_2 : FS := fSeq (fSet 4 (fLst (fNil)))
    (fSeq (fFor (fItems (fVar 2)) (gTu 2 (gCo (gVar 5) (gCo (gVar 6) (gNo)))) (b__law_rows_1))
    (fSet 2 (fGive 4)))
def b__law_rows : FS := fSeq (fSet 2 (fLc [5] (fRg rg1 (fCons (fBin hAdd (fVar 0) (fC (.int 1))) (fNil))) (gVar 5) (fYes) (fTup (fCons (fVar 5) (fCons (fFz (fLst (fNil))) (fNil))))))
    (fSeq (fFor (fItems (fVar 1)) (gVar 3) (b__law_rows_2))
    (fRet (fSh (fVar 2))))
def F__law_rows : List PyData → Option Sl := runF 8 b__law_rows
def b__law_many_1 : FS := fSeq (fSet 4 (fCall hSum (fCons (fVar 2) (fNil))))
    (fIf (fB (fBin hEq (fVar 3) (fC (.int 0)))) (fSet 2 (fSh (fBin hMul (fFz (fLst (fCons (fVar 4) (fNil)))) (fBin hAdd (fVar 0) (fC (.int 1)))))) (fSet 2 (fLc [5] (fRg rg1 (fCons (fBin hAdd (fVar 0) (fC (.int 1))) (fNil))) (gVar 5) (fYes) (fBin hMul (fVar 4) (fFz (fCall hInt (fCons (fBin hEq (fVar 5) (fIfE (fB (fBin hGt (fVar 3) (fC (.int 0)))) (fVar 0) (fC (.int 0)))) (fNil))))))))
def b__law_many : FS := fSeq (fSet 2 (fSh (fBin hMul (fFz (fLst (fCons (fC (.int 1)) (fNil)))) (fBin hAdd (fVar 0) (fC (.int 1))))))
    (fSeq (fFor (fItems (fVar 1)) (gVar 3) (b__law_many_1))
    (fRet (fCall hSum (fCons (fVar 2) (fNil)))))
def F__law_many : List PyData → Option Sl := runF 6 b__law_many
def b_law_1 : FS := fAppend 3 (fBin hIx (fFz (fLst (fCons (fC (.int 0)) (fCons (fC (.int 0)) (fCons (fBin hAdd (fC (.int 1)) (fFz (fCallB 1 1 F__law_take (fCons (fC (.int 5)) (fNil))))) (fCons (fBin hSub (fUn hNeg (fC (.int 1))) (fFz (fCallB 1 1 F__law_take (fCons (fC (.int 5)) (fNil))))) (fNil))))))) (fFz (fCallB 1 1 F__law_take (fCons (fC (.int 4)) (fNil)))))
def b_law_2 : FS := fSeq (fSet 13 (fCall hSorted (fCons (fFz (fLc [8, 17] (fItems (fVar 5)) (gTu 2 (gCo (gVar 8) (gCo (gVar 17) (gNo)))) (fYes) (fBin hIx (fVar 17) (fVar 7)))) (fNil))))
    (fAppend 6 (fTup (fCons (fBin hIx (fVar 13) (fC (.int 0))) (fCons (fBin hIx (fVar 13) (fUn hNeg (fC (.int 1)))) (fNil)))))
def b_law_3 : FS := fSeq (fSet 14 (fSh (fBin hIx (fFz (fLst (fCons (fBin hPow (fC (.int 10)) (fC (.int 11))) (fCons (fC (.int 25)) (fCons (fC (.int 4)) (fNil)))))) (fFz (fCallB 1 1 F__law_take (fCons (fC (.int 3)) (fNil)))))))
    (fSeq (fSet 15 (fSh (fBin hSub (fFz (fCallB 1 1 F__law_take (fCons (fBin hAdd (fBin hMul (fC (.int 2)) (fVar 14)) (fC (.int 1))) (fNil)))) (fVar 14))))
    (fSeq (fSet 16 (fSh (fBin hIx (fFz (fCall hSorted (fCons (fFz (fLst (fCons (fBin hSub (fBin hAdd (fVar 8) (fVar 15)) (fVar 2)) (fCons (fC (.int 0)) (fCons (fBin hAdd (fVar 8) (fVar 15)) (fNil)))))) (fNil)))) (fC (.int 1)))))
    (fSeq (fSet 8 (fSh (fBin hSub (fBin hAdd (fVar 8) (fVar 15)) (fVar 16))))
    (fPar2 9 10 (fConsR (fSh (fBin hAdd (fVar 9) (fFz (fLst (fCons (fVar 16) (fNil)))))) (fConsR (fSh (fBin hAdd (fVar 10) (fFz (fLst (fCons (fVar 15) (fNil)))))) (fNilR)))))))
def b_main : FS := fSeq (fSet 2 (fCallB 1 1 F__law_take (fCons (fC (.int 4)) (fNil))))
    (fSeq (fSet 3 (fLst (fNil)))
    (fSeq (fFor (fRg rg1 (fCons (fFz (fCallB 1 1 F__law_take (fCons (fC (.int 5)) (fNil)))) (fNil))) (gVar 4) (b_law_1))
    (fSeq (fSet 5 (fCallR 2 F__law_rows (fCons (fVar 2) (fCons (fVar 3) (fNil)))))
    (fSeq (fSet 6 (fLst (fNil)))
    (fSeq (fFor (fRg rg1 (fCons (fFz (fCall hLen (fCons (fVar 3) (fNil)))) (fNil))) (gVar 7) (b_law_2))
    (fSeq (fIf (fOrT (fNotT (fB (fFz (fCallR 2 (F__law_same 8) (fCons (fFz (fCallR 2 F_turns_seen (fCons (fVar 2) (fCons (fVar 3) (fNil))))) (fCons (fVar 6) (fNil))))))) (fNotT (fB (fFz (fCallR 2 (F__law_same 8) (fCons (fFz (fCallR 2 F_how_many (fCons (fVar 2) (fCons (fVar 3) (fNil))))) (fCons (fFz (fCall hLen (fCons (fVar 5) (fNil)))) (fNil)))))))) (fRet (fSh (fC (.bool false)))) (fNext))
    (fSeq (fSet 2 (fCallB 1 1 F__law_take (fCons (fC (.int 21)) (fNil))))
    (fSeq (fPar3 8 9 10 (fConsR (fCallB 1 1 F__law_take (fCons (fBin hAdd (fVar 2) (fC (.int 1))) (fNil))) (fConsR (fLst (fNil)) (fConsR (fLst (fNil)) (fNilR)))))
    (fSeq (fFor (fRg rg1 (fCons (fFz (fCallB 1 1 F__law_take (fCons (fC (.int 39)) (fNil)))) (fNil))) (gVar 4) (b_law_3))
    (fSeq (fSet 11 (fCallR 2 F_turns_seen (fCons (fVar 2) (fCons (fVar 9) (fNil)))))
    (fSeq (fIf (fB (fBin hNe (fFz (fLc [7, 15] (fRg en1 (fCons (fVar 10) (fNil))) (gTu 2 (gCo (gVar 7) (gCo (gVar 15) (gNo)))) (fNotT (fB (fChain hLe hLe (fBin hIx (fBin hIx (fVar 11) (fVar 7)) (fC (.int 0))) (fVar 15) (fBin hIx (fBin hIx (fVar 11) (fVar 7)) (fC (.int 1)))))) (fVar 7))) (fFz (fLst (fNil))))) (fRet (fSh (fC (.bool false)))) (fNext))
    (fSeq (fSet 12 (fCallR 2 F_how_many (fCons (fVar 2) (fCons (fVar 9) (fNil)))))
    (fSeq (fIf (fOrT (fNotT (fB (fFz (fCallR 2 (F__law_same 8) (fCons (fVar 12) (fCons (fFz (fCallR 2 F__law_many (fCons (fVar 2) (fCons (fVar 9) (fNil))))) (fNil))))))) (fB (fBin hNe (fFz (fCallR 2 F_how_many (fCons (fVar 2) (fCons (fBin hAdd (fVar 9) (fFz (fLst (fCons (fC (.int 0)) (fNil))))) (fNil))))) (fBin hMul (fVar 12) (fBin hAdd (fVar 2) (fC (.int 1))))))) (fRet (fSh (fC (.bool false)))) (fNext))
    (fIf (fOrT (fB (fBin hNe (fFz (fCallR 2 F_how_many (fCons (fVar 2) (fCons (fBin hAdd (fVar 9) (fFz (fLst (fCons (fC (.int 7)) (fNil))))) (fNil))))) (fVar 12))) (fB (fBin hNe (fFz (fCallR 2 F_how_many (fCons (fVar 2) (fCons (fBin hAdd (fVar 9) (fFz (fLst (fCons (fUn hNeg (fC (.int 7))) (fNil))))) (fNil))))) (fVar 12)))) (fRet (fSh (fC (.bool false)))) (fNext)))))))))))))))

theorem cut_map {α : Type} (toD : α → PyData) (xs : List α) (k : Int) (h : 0 ≤ k) : cutD (xs.map toD) none (some k) = (xs.take k.toNat).map toD ∧ cutD (xs.map toD) (some k) none = (xs.drop k.toNat).map toD := by
  obtain ⟨n, rfl⟩ : ∃ n : Nat, k = n := ⟨k.toNat, by omega⟩
  unfold cutD
  rw [HT.sIx_none, HT.sIx_nat, HT.sIx_none, HT.sIx_nat, List.length_map, List.drop_zero, Int.toNat_natCast, Nat.sub_zero, List.map_take, List.map_drop]
  refine ⟨?_, ?_⟩
  · by_cases e : n ≤ xs.length
    · rw [Nat.min_eq_left e]
    · rw [Nat.min_eq_right (by omega), List.take_of_length_le (by rw [List.length_map]; omega), List.take_of_length_le (by rw [List.length_map]; omega)]
  · by_cases e : n ≤ xs.length
    · rw [Nat.min_eq_left e, List.take_of_length_le (by rw [List.length_drop, List.length_map]; omega)]
    · rw [Nat.min_eq_right (by omega), List.drop_eq_nil_of_le (by rw [List.length_map]; omega), List.drop_eq_nil_of_le (by rw [List.length_map]; omega), List.take_nil]
theorem pick3 {x y z r : Int} (h0 : 0 ≤ r) (h1 : r < 3) : ∃ w, atI [PyData.int x, .int y, .int z] r = some (.int w) ∧ (w = x ∨ w = y ∨ w = z) := by
  have h2 : r = 0 ∨ r = 1 ∨ r = 2 := by omega
  rcases h2 with rfl | rfl | rfl
  · exact ⟨x, by simp, .inl rfl⟩
  · exact ⟨y, by simp, .inr (.inl rfl)⟩
  · exact ⟨z, by simp, .inr (.inr rfl)⟩
theorem rangeD_map (n : Nat) : rangeD 0 n = (List.range n).map fun (k : Nat) => PyData.int (k : Int) := by
  unfold rangeD
  simp
theorem rg1_eq {j : Int} (h : 0 ≤ j ∧ j < 1000000000) : rg1 [.int j] = some ((List.range j.toNat).map fun (k : Nat) => PyData.int (k : Int)) := by
  rw [← rangeD_map]
  exact if_pos ⟨by omega, by omega⟩
theorem fRg1_of {k : FA} {ρ ρ' : En} {j : Int} (h : k ρ = some ([.int j], ρ')) (hj : 0 ≤ j ∧ j < 1000000000) : fRg rg1 k ρ = some ((List.range j.toNat).map fun (k : Nat) => PyData.int (k : Int), ρ') := by
  have e := rg1_eq hj
  unfold fRg
  rw [h, Option.bind_some]
  show (rg1 [.int j]).map _ = _
  rw [e]
  rfl
theorem fRg1_nat {k : FA} {ρ ρ' : En} {j : Int} {n : Nat} (h : k ρ = some ([.int j], ρ')) (hj : j = n) (hn : n < 1000000000) : fRg rg1 k ρ = some ((List.range n).map fun (k : Nat) => PyData.int (k : Int), ρ') := by
  have e := fRg1_of h ⟨by omega, by omega⟩
  have e2 : j.toNat = n := by omega
  rw [e2] at e
  exact e

theorem boolsO_all {α : Type} (xs : List α) : boolsO (xs.map fun _ => PyData.bool true) = some (xs.map fun _ => true) := by
  induction xs with
  | nil => rfl
  | cons x xs ih => simp [ih]
theorem all_true {α : Type} (xs : List α) : (xs.map fun _ => true).all id = true := by
  induction xs with
  | nil => rfl
  | cons x xs ih => simp

theorem forL_run {α : Type} {g : FG} {F : FS} {toD : α → PyData} {ρ : En} {xs : List α} {Inv : List α → En → Prop} (h0 : Inv [] ρ) (hs : ∀ pre x post ρ1, xs = pre ++ x :: post → Inv pre ρ1 → ∃ ρ2, g (toD x) ρ1 = some ρ2 ∧ ∃ ρ3, F ρ2 = some (.nx ρ3) ∧ Inv (pre ++ [x]) ρ3) :
    ∃ ρ', forL g F (xs.map toD) ρ = some (.nx ρ') ∧ Inv xs ρ' := by
  have go : ∀ (post pre : List α) (ρ1 : En), xs = pre ++ post → Inv pre ρ1 → ∃ ρ', forL g F (post.map toD) ρ1 = some (.nx ρ') ∧ Inv xs ρ' := by
    intro post
    induction post with
    | nil =>
      intro pre ρ1 e h
      rw [List.append_nil] at e
      subst e
      exact ⟨ρ1, rfl, h⟩
    | cons x post ih =>
      intro pre ρ1 e h
      obtain ⟨ρ2, h1, ρ3, h2, h3⟩ := hs pre x post ρ1 e h
      obtain ⟨ρ', h4, h5⟩ := ih (pre ++ [x]) ρ3 (by rw [e, List.append_assoc]; rfl) h3
      refine ⟨ρ', ?_, h5⟩
      rw [List.map_cons, forL_cons, h1, Option.bind_some, h2, Option.bind_some]
      exact h4
  exact go xs [] ρ rfl h0

/-! what may be: whole numbers, pairs -/
theorem sp_is_whole {d : PyData} (h : noDict d = true) : F_is_whole [d] = some (.sh (.bool (kInt d && !kBool d))) := by
  cases d with
  | dict _ => cases h
  | _ => simp [F_is_whole, runF, b_is_whole, startE, isi_int h, isi_bool h, kInt, kBool]
def withinD (d : PyData) (lo hi : Int) : Bool := match d with
  | .int i => decide (lo ≤ i) && decide (i ≤ hi)
  | _ => false
theorem sp_is_within {d : PyData} (h : noDict d = true) (lo hi : Int) : F_is_within [d, .int lo, .int hi] = some (.sh (.bool (withinD d lo hi))) := by
  cases d with
  | dict _ => cases h
  | int i =>
    simp [F_is_within, runF, b_is_within, startE, sp_is_whole h, kInt, kBool, withinD]
    cases hd : decide (lo ≤ i) <;> simp
  | _ => simp [F_is_within, runF, b_is_within, startE, sp_is_whole h, kInt, kBool, withinD]
theorem sp_is_within_i (i lo hi : Int) : F_is_within [.int i, .int lo, .int hi] = some (.sh (.bool (decide (lo ≤ i) && decide (i ≤ hi)))) := sp_is_within rfl lo hi
theorem sp_is_within_ok {i lo hi : Int} (h1 : lo ≤ i) (h2 : i ≤ hi) : F_is_within [.int i, .int lo, .int hi] = some (.sh (.bool true)) := by
  rw [sp_is_within_i, decide_eq_true h1, decide_eq_true h2]
  rfl
def pairD (d : PyData) : Bool := match d with
  | .tuple xs => xs.length == 2
  | _ => false

/-! turns -/
def tSo (s o t : Int) : Int × Int := if o + t > s then (o + t - s, s) else if o + t < 0 then (o + t, 0) else (0, o + t)

/-- a comprehension with a test, its items known one by one -/
theorem lcL_filter {α : Type} {vs : List Nat} {g : FG} {tt : FT} {te : FE} {ρ : En} (toD : α → PyData) (q : α → Bool) (fn : α → PyData) : ∀ xs : List α, (∀ x ∈ xs, ∃ ρ1 ρ2, g (toD x) ρ = some ρ1 ∧ tt ρ1 = some (q x, ρ2) ∧ (q x = true → ∃ ρ3, te ρ2 = some (fn x, ρ3) ∧ wipeE ρ3 vs = ρ) ∧ (q x = false → wipeE ρ2 vs = ρ)) →
    lcL vs g tt te (xs.map toD) ρ = some ((xs.filter q).map fn, ρ)
  | [], _ => rfl
  | x :: xs, h => by
    obtain ⟨ρ1, ρ2, h1, h2, h3, h4⟩ := h x List.mem_cons_self
    have ih := lcL_filter (vs := vs) (g := g) (tt := tt) (te := te) (ρ := ρ) toD q fn xs fun y hy => h y (List.mem_cons_of_mem _ hy)
    rw [List.map_cons, lcL_cons, h1, Option.bind_some, h2, Option.bind_some]
    cases hq : q x with
    | true =>
      obtain ⟨ρ3, h5, h6⟩ := h3 hq
      rw [if_pos rfl]
      show (te ρ2).bind _ = _
      rw [h5, Option.bind_some, h6, ih, List.filter_cons, if_pos hq]
      rfl
    | false =>
      rw [if_neg Bool.false_ne_true]
      show lcL vs g tt te (xs.map toD) (wipeE ρ2 vs) = _
      rw [h4 hq, ih, List.filter_cons, if_neg (by rw [hq]; exact Bool.false_ne_true)]

theorem tSo_in {s o t : Int} (h0 : 0 ≤ o) (h1 : o ≤ s) : 0 ≤ (tSo s o t).2 ∧ (tSo s o t).2 ≤ s := by
  unfold tSo
  split
  · show 0 ≤ s ∧ s ≤ s
    omega
  · split
    · show 0 ≤ (0 : Int) ∧ (0 : Int) ≤ s
      omega
    · show 0 ≤ o + t ∧ o + t ≤ s
      omega
theorem tSo_sum (s o t : Int) : (tSo s o t).1 + (tSo s o t).2 = o + t := by
  unfold tSo
  split
  · show o + t - s + s = o + t
    omega
  · split
    · show o + t + 0 = o + t
      omega
    · show 0 + (o + t) = o + t
      omega
theorem pick2 {x y r : Int} (h0 : 0 ≤ r) (h1 : r < 2) : ∃ z, atI [PyData.int x, .int y] r = some (.int z) ∧ (z = x ∨ z = y) := by
  have h2 : r = 0 ∨ r = 1 := by omega
  rcases h2 with rfl | rfl
  · exact ⟨x, by simp, .inl rfl⟩
  · exact ⟨y, by simp, .inr rfl⟩
theorem tSo_bd {s o t : Int} (h0 : 0 ≤ o) (h1 : o ≤ s) : (0 ≤ t → 0 ≤ (tSo s o t).1 ∧ (tSo s o t).1 ≤ t) ∧ (t ≤ 0 → t ≤ (tSo s o t).1 ∧ (tSo s o t).1 ≤ 0) := by
  unfold tSo
  split
  · show (_ → 0 ≤ o + t - s ∧ o + t - s ≤ t) ∧ (_ → t ≤ o + t - s ∧ o + t - s ≤ 0)
    omega
  · split
    · show (_ → 0 ≤ o + t ∧ o + t ≤ t) ∧ (_ → t ≤ o + t ∧ o + t ≤ 0)
      omega
    · show (_ → 0 ≤ (0 : Int) ∧ 0 ≤ t) ∧ (_ → t ≤ 0 ∧ (0 : Int) ≤ 0)
      omega

/-! pairs of ints -/
abbrev Pr := Int × Int
def prD (x : Pr) : PyData := .tuple [.int x.1, .int x.2]
def prsD (l : List Pr) : PyData := .list (l.map prD)

/-! turns to -/
def rgI (s : Int) : List Int := (List.range (s + 1).toNat).map fun (k : Nat) => (k : Int)
theorem mem_rgI {s x : Int} (hs : 0 ≤ s) : x ∈ rgI s ↔ 0 ≤ x ∧ x ≤ s := by
  unfold rgI
  rw [List.mem_map]
  constructor
  · rintro ⟨k, hk, rfl⟩
    rw [List.mem_range] at hk
    omega
  · intro h
    exact ⟨x.toNat, List.mem_range.mpr (by omega), by omega⟩
theorem rgI_nodup (s : Int) : (rgI s).Nodup := by
  unfold rgI List.Nodup
  rw [List.pairwise_map]
  exact List.Pairwise.imp (fun {a b} h => by omega) List.pairwise_lt_range
theorem rgI_sorted (s : Int) : (rgI s).Pairwise (· ≤ ·) := by
  unfold rgI
  rw [List.pairwise_map]
  exact List.Pairwise.imp (fun {a b} h => by omega) List.pairwise_lt_range
theorem rgI_len {s : Int} (hs : 0 ≤ s) : ((rgI s).length : Int) = s + 1 := by
  unfold rgI
  rw [List.length_map, List.length_range]
  omega
theorem rg1_I {s : Int} (h : 0 ≤ s ∧ s ≤ 20) : rg1 [.int (s + 1)] = some ((rgI s).map PyData.int) := by
  rw [rg1_eq (by omega)]
  unfold rgI
  rw [List.map_map]
  rfl
def tto (s off m : Int) : List Pr := if 0 < m then [(m + s - off, s)] else if m < 0 then [(m - off, 0)] else (rgI s).map fun t => (t - off, t)
theorem sp_turns_to {s off m : Int} (hs : 0 ≤ s ∧ s ≤ 20) : F_turns_to [.int s, .int off, .int m] = some (.ow ((tto s off m).map prD)) := by
  unfold tto
  by_cases h1 : 0 < m
  · simp [F_turns_to, runF, b_turns_to, startE, h1, prD]
  · by_cases h2 : m < 0
    · simp [F_turns_to, runF, b_turns_to, startE, h1, h2, prD]
    · have a1 := rg1_I hs
      have hl : (rgI s).length ≤ 16000000 := by have := rgI_len hs.1; omega
      have c1 : lcL [3] (gVar 3) fYes (fTup (fCons (fBin hSub (fVar 3) (fVar 1)) (fCons (fVar 3) fNil))) ((rgI s).map PyData.int) [.sh (.int s), .sh (.int off), .sh (.int m), .un] = some (((rgI s).map fun t => ((t - off, t) : Pr)).map prD, [.sh (.int s), .sh (.int off), .sh (.int m), .un]) := by
        rw [List.map_map]
        exact lcL_map PyData.int _ (rgI s) fun x hx => ⟨[.sh (.int s), .sh (.int off), .sh (.int m), .sh (.int x)], [.sh (.int s), .sh (.int off), .sh (.int m), .sh (.int x)], rfl, by simp [prD], rfl⟩
      rw [if_neg h1, if_neg h2]
      generalize ((rgI s).map fun t => ((t - off, t) : Pr)).map prD = R at *
      simp [F_turns_to, runF, b_turns_to, startE, h1, h2, a1, c1, hl]
/-! what may be -/
def MvsOk (l : List Int) : Prop := l.length ≤ 40 ∧ ∀ x ∈ l, -1000000000000 ≤ x ∧ x ≤ 1000000000000
theorem sp_look_at_moved {s : Int} {l : List Int} (hs : 0 ≤ s ∧ s ≤ 20) (h : MvsOk l) : F_look_at_moved [.int s, .list (l.map PyData.int)] = some (.sh .none) := by
  have e1 : F_look_at_slack [.int s] = some (.sh .none) := by simp [F_look_at_slack, runF, b_look_at_slack, startE, sp_is_within_i, hs.1, hs.2]
  have c1 : lcL [1] (gVar 1) fYes (fFz (fCallR 3 F_is_within (fCons (fVar 1) (fCons (fBin hSub (fC (.int 0)) (fC (.int 1000000000000))) (fCons (fC (.int 1000000000000)) fNil))))) (l.map PyData.int) [.sh (.list (l.map PyData.int)), .un] = some (l.map fun _ => PyData.bool true, [.sh (.list (l.map PyData.int)), .un]) :=
    lcL_map PyData.int (fun _ => PyData.bool true) l fun x hx => ⟨[.sh (.list (l.map PyData.int)), .sh (.int x)], [.sh (.list (l.map PyData.int)), .sh (.int x)], rfl, by simp [sp_is_within_i, (h.2 x hx).1, (h.2 x hx).2], rfl⟩
  have e4 : ¬ (40 : Int) < (l.length : Int) := by have := h.1; omega
  have e5 : l.length ≤ 16000000 := by have := h.1; omega
  have e2 : F_are_moved [.list (l.map PyData.int)] = some (.sh (.bool true)) := by
    simp [F_are_moved, runF, b_are_moved, startE, c1, e4, e5, boolsO_all]
  simp [F_look_at_moved, runF, b_look_at_moved, startE, e1, e2]
/-! how many -/
def manyT (s : Int) : Int → List Int → Int
  | T, [] => T
  | T, m :: l => manyT s (if m = 0 then T * (s + 1) else T) l
theorem manyT_app (s : Int) : ∀ (l r : List Int) (T : Int), manyT s T (l ++ r) = manyT s (manyT s T l) r
  | [], _, _ => rfl
  | m :: l, r, T => manyT_app s l r _
/-- the offs behind a move -/
def offsB (s m : Int) : List Int := if 0 < m then [s] else if m < 0 then [0] else rgI s
theorem tto_snd (s off m : Int) : (tto s off m).map (·.2) = offsB s m := by
  unfold tto offsB
  split
  · rfl
  · split
    · rfl
    · rw [List.map_map]
      exact List.map_id _
theorem offsB_nodup (s m : Int) : (offsB s m).Nodup := by
  unfold offsB
  split
  · simp
  · split
    · simp
    · exact rgI_nodup s
theorem offsB_ne {s m : Int} (hs : 0 ≤ s) : offsB s m ≠ [] := by
  unfold offsB
  split
  · simp
  · split
    · simp
    · intro h
      have := rgI_len hs
      rw [h] at this
      simp at this
      omega
theorem offsB_len {s m : Int} (hs : 0 ≤ s) : ((offsB s m).length : Int) = if m = 0 then s + 1 else 1 := by
  unfold offsB
  split
  · rw [if_neg (by omega)]
    rfl
  · split
    · rw [if_neg (by omega)]
      rfl
    · rw [if_pos (by omega)]
      exact rgI_len hs
def cOf (l : List Pr) : List (Key × PyData) := l.map fun x => (Sum.inl x.1, .int x.2)
def getI : List Pr → Int → Int
  | [], _ => 0
  | x :: l, k => if x.1 = k then x.2 else getI l k
def hasI : List Pr → Int → Bool
  | [], _ => false
  | x :: l, k => decide (x.1 = k) || hasI l k
theorem valD_c (k : Int) : ∀ l : List Pr, valD (cOf l) (.inl k) = if hasI l k = true then some (.int (getI l k)) else none
  | [] => rfl
  | x :: l => by
    show (if (Sum.inl x.1 : Key) = .inl k then some (PyData.int x.2) else valD (cOf l) (.inl k)) = _
    by_cases h : x.1 = k
    · rw [if_pos (by rw [h])]
      simp [hasI, getI, h]
    · rw [if_neg fun e => h (Sum.inl.inj e), valD_c k l]
      simp [hasI, getI, h]
theorem get_none (k : Int) : ∀ l : List Pr, hasI l k = false → getI l k = 0
  | [], _ => rfl
  | x :: l, h => by
    unfold hasI at h
    rw [Bool.or_eq_false_iff, decide_eq_false_iff_not] at h
    unfold getI
    rw [if_neg h.1]
    exact get_none k l h.2
theorem valD_c0 (k : Int) (l : List Pr) : (valD (cOf l) (.inl k)).getD (.int 0) = .int (getI l k) := by
  rw [valD_c]
  cases h : hasI l k with
  | true => rfl
  | false =>
    rw [get_none k l h]
    rfl
def setI : List Pr → Int → Int → List Pr
  | [], k, v => [(k, v)]
  | x :: l, k, v => if x.1 = k then (k, v) :: l.map (fun y => if y.1 = k then (k, v) else y) else x :: setI l k v
theorem putD_c (k v : Int) : ∀ l : List Pr, putD (cOf l) (.inl k) (.int v) = cOf (setI l k v)
  | [] => rfl
  | x :: l => by
    show (if (Sum.inl x.1 : Key) = .inl k then ((Sum.inl x.1 : Key), PyData.int v) :: (cOf l).map (fun q => if q.1 = .inl k then (q.1, PyData.int v) else q) else ((Sum.inl x.1 : Key), PyData.int x.2) :: putD (cOf l) (.inl k) (.int v)) = _
    by_cases h : x.1 = k
    · rw [if_pos (by rw [h])]
      unfold setI
      rw [if_pos h]
      show _ = ((Sum.inl k : Key), PyData.int v) :: cOf (l.map _)
      rw [h]
      congr 1
      unfold cOf
      rw [List.map_map, List.map_map]
      refine List.map_congr_left fun y _ => ?_
      show (if (Sum.inl y.1 : Key) = .inl k then ((Sum.inl y.1 : Key), PyData.int v) else ((Sum.inl y.1 : Key), PyData.int y.2)) = ((Sum.inl (if y.1 = k then (k, v) else y).1 : Key), PyData.int (if y.1 = k then (k, v) else y).2)
      by_cases h2 : y.1 = k
      · rw [if_pos (by rw [h2]), if_pos h2, h2]
      · rw [if_neg fun e => h2 (Sum.inl.inj e), if_neg h2]
    · rw [if_neg fun e => h (Sum.inl.inj e), putD_c k v l]
      show _ = cOf (if x.1 = k then _ else x :: setI l k v)
      rw [if_neg h]
      rfl
def bump (c : Int) (l : List Pr) (k : Int) : List Pr := setI l k (getI l k + c)
theorem setI_new (k v : Int) : ∀ l : List Pr, k ∉ l.map (·.1) → setI l k v = l ++ [(k, v)] ∧ getI l k = 0
  | [], _ => ⟨rfl, rfl⟩
  | x :: l, h => by
    rw [List.map_cons, List.mem_cons, not_or] at h
    obtain ⟨h1, h2⟩ := setI_new k v l h.2
    unfold setI getI
    rw [if_neg (Ne.symm h.1), if_neg (Ne.symm h.1), h1]
    exact ⟨rfl, h2⟩
theorem setI_mid (k v : Int) (x : Int) (B : List Pr) : ∀ A : List Pr, k ∉ A.map (·.1) → k ∉ B.map (·.1) → setI (A ++ (k, x) :: B) k v = A ++ (k, v) :: B ∧ getI (A ++ (k, x) :: B) k = x
  | [], _, hB => by
    show (if k = k then (k, v) :: B.map _ else _) = _ ∧ (if k = k then x else _) = x
    rw [if_pos rfl, if_pos rfl]
    refine ⟨?_, rfl⟩
    show (k, v) :: B.map _ = (k, v) :: B
    congr 1
    have e : B.map (fun y => if y.1 = k then (k, v) else y) = B.map id := List.map_congr_left fun y hy => by
      rw [if_neg fun e => hB (List.mem_map.mpr ⟨y, hy, e⟩)]
      rfl
    rw [e, List.map_id]
  | a :: A, hA, hB => by
    rw [List.map_cons, List.mem_cons, not_or] at hA
    obtain ⟨h1, h2⟩ := setI_mid k v x B A hA.2 hB
    show (if a.1 = k then _ else a :: setI (A ++ (k, x) :: B) k v) = _ ∧ (if a.1 = k then a.2 else getI (A ++ (k, x) :: B) k) = x
    rw [if_neg (Ne.symm hA.1), if_neg (Ne.symm hA.1), h1]
    exact ⟨rfl, h2⟩
theorem bump_new (c : Int) : ∀ (K2 K1 : List Int), (K1 ++ K2).Nodup → K2.foldl (bump c) (K1.map fun k => (k, c)) = (K1 ++ K2).map fun k => (k, c)
  | [], K1, _ => by rw [List.append_nil]; rfl
  | k :: K2, K1, h => by
    have h1 : k ∉ (K1.map fun k => ((k, c) : Pr)).map (·.1) := by
      rw [List.map_map, show ((fun x : Pr => x.1) ∘ fun k => ((k, c) : Pr)) = id from rfl, List.map_id]
      intro z
      exact (List.nodup_append.mp h).2.2 k z k List.mem_cons_self rfl
    obtain ⟨e1, e2⟩ := setI_new k (0 + c) _ h1
    have e3 : bump c (K1.map fun k => (k, c)) k = (K1 ++ [k]).map fun k => (k, c) := by
      unfold bump
      rw [e2, e1, Int.zero_add, List.map_append]
      rfl
    rw [List.foldl_cons, e3, bump_new c K2 (K1 ++ [k]) (by rw [List.append_assoc]; exact h), List.append_assoc]
    rfl
theorem bump_old (c T : Int) : ∀ (K2 K1 : List Int), (K1 ++ K2).Nodup → K2.foldl (bump c) ((K1.map fun k => (k, T + c)) ++ K2.map fun k => (k, T)) = (K1 ++ K2).map fun k => (k, T + c)
  | [], K1, _ => by rw [List.append_nil, List.map_nil, List.append_nil]; rfl
  | k :: K2, K1, h => by
    have keys : ∀ (l : List Int) (v : Int), (l.map fun k => ((k, v) : Pr)).map (·.1) = l := fun l v => by
      rw [List.map_map, show ((fun x : Pr => x.1) ∘ fun k => ((k, v) : Pr)) = id from rfl, List.map_id]
    have h1 : k ∉ (K1.map fun k => ((k, T + c) : Pr)).map (·.1) := by
      rw [keys]
      intro z
      exact (List.nodup_append.mp h).2.2 k z k List.mem_cons_self rfl
    have h2 : k ∉ (K2.map fun k => ((k, T) : Pr)).map (·.1) := by
      rw [keys]
      exact (List.nodup_cons.mp (List.nodup_append.mp h).2.1).1
    obtain ⟨e1, e2⟩ := setI_mid k (T + c) T (K2.map fun k => (k, T)) (K1.map fun k => (k, T + c)) h1 h2
    have e3 : bump c ((K1.map fun k => (k, T + c)) ++ (k :: K2).map fun k => (k, T)) k = ((K1 ++ [k]).map fun k => (k, T + c)) ++ K2.map fun k => (k, T) := by
      unfold bump
      rw [List.map_cons, e2, e1, List.map_append, List.append_assoc]
      rfl
    rw [List.foldl_cons, e3, bump_old c T K2 (K1 ++ [k]) (by rw [List.append_assoc]; exact h), List.append_assoc]
    rfl

theorem inner_loop {s off m c : Int} {l : List Pr} (hl : l.length ≤ 100) (a0 a1 a2 a3 : Sl) (mm : List (Key × PyData)) (ho : valD mm (.inl off) = some (.int c)) (a6 a7 : Sl) (h2 : a2 = .lk mm) (hm : (tto s off m).length ≤ 21) (hnl : nolk [a6, a7] = true) :
    ∃ y6 y7, forL (gTu 2 (gCo (gVar 6) (gCo (gVar 7) gNo))) b_how_many_1 ((tto s off m).map prD) [a0, a1, a2, a3, .ok (cOf l), .sh (.int off), a6, a7] = some (.nx [a0, a1, a2, a3, .ok (cOf ((offsB s m).foldl (bump c) l)), .sh (.int off), y6, y7]) ∧ nolk [y6, y7] = true := by
  subst h2
  have key := forL_run (g := gTu 2 (gCo (gVar 6) (gCo (gVar 7) gNo))) (F := b_how_many_1) (toD := prD) (xs := tto s off m)
    (ρ := [a0, a1, .lk mm, a3, .ok (cOf l), .sh (.int off), a6, a7])
    (Inv := fun pre ρ => ∃ y6 y7, ρ = [a0, a1, .lk mm, a3, .ok (cOf ((pre.map (·.2)).foldl (bump c) l)), .sh (.int off), y6, y7] ∧ ((pre.map (·.2)).foldl (bump c) l).length ≤ l.length + pre.length ∧ nolk [y6, y7] = true)
    ⟨_, _, rfl, by simp, hnl⟩ (fun pre x post ρ1 e ⟨y6, y7, hρ, hlen, _⟩ => by
      subst hρ
      have hpl : pre.length < 21 := by
        have := congrArg List.length e
        rw [List.length_append, List.length_cons] at this
        omega
      have e1 : ((pre ++ [x]).map (·.2)).foldl (bump c) l = bump c ((pre.map (·.2)).foldl (bump c) l) x.2 := by
        rw [List.map_append, List.foldl_append]
        rfl
      rw [e1]
      generalize (pre.map (·.2)).foldl (bump c) l = r at *
      have v1 := valD_c0 x.2 r
      have p1 := putD_c x.2 (getI r x.2 + c) r
      have l1 : (cOf r).length < 16777216 := by
        unfold cOf
        rw [List.length_map]
        omega
      have hbl : (bump c r x.2).length ≤ r.length + 1 := by
        have h1 := congrArg List.length p1
        have h2 := putD_le (Sum.inl x.2 : Key) (.int (getI r x.2 + c)) (cOf r)
        unfold cOf at h1 h2
        rw [List.length_map] at h1 h2
        unfold bump
        omega
      refine ⟨[a0, a1, .lk mm, a3, .ok (cOf r), .sh (.int off), .sh (.int x.1), .sh (.int x.2)], by simp [prD], [a0, a1, .lk mm, a3, .ok (cOf (bump c r x.2)), .sh (.int off), .sh (.int x.1), .sh (.int x.2)], ?_, _, _, rfl, by rw [List.length_append]; show _ ≤ _ + (pre.length + 1); omega, rfl⟩
      have e2 : cOf (bump c r x.2) = putD (cOf r) (.inl x.2) (.int (getI r x.2 + c)) := p1.symm
      rw [e2]
      simp [b_how_many_1, v1, ho, l1])
  obtain ⟨ρ', e1, y6, y7, rfl, _, hn'⟩ := key
  rw [tto_snd] at e1
  exact ⟨y6, y7, e1, hn'⟩
theorem tto_len {s off m : Int} (hs : 0 ≤ s ∧ s ≤ 20) : (tto s off m).length ≤ 21 := by
  have h1 := congrArg List.length (tto_snd s off m)
  rw [List.length_map] at h1
  have := offsB_len (m := m) hs.1
  split at this <;> omega
theorem kD_c (l : List Pr) : (cOf l).map (fun p => kD p.1) = (l.map (·.1)).map PyData.int := by
  unfold cOf
  rw [List.map_map, List.map_map]
  rfl
theorem valD_mem {l : List Pr} (hn : (l.map (·.1)).Nodup) {x : Pr} (hx : x ∈ l) : valD (cOf l) (.inl x.1) = some (.int x.2) := by
  induction l with
  | nil => cases hx
  | cons y l ih =>
    rw [List.map_cons, List.nodup_cons] at hn
    show (if (Sum.inl y.1 : Key) = .inl x.1 then some (PyData.int y.2) else valD (cOf l) (.inl x.1)) = _
    rcases List.mem_cons.mp hx with e | hx
    · subst e
      rw [if_pos rfl]
    · rw [if_neg fun e => hn.1 (by rw [Sum.inl.inj e]; exact List.mem_map_of_mem hx)]
      exact ih hn.2 hx
theorem one_more {s m c T : Int} {started : Bool} : (offsB s m).foldl (bump c) (if started = true then (offsB s m).map fun k => (k, T) else []) = (offsB s m).map fun k => (k, (if started = true then T else 0) + c) := by
  cases started with
  | true => exact bump_old c T (offsB s m) [] (offsB_nodup s m)
  | false =>
    rw [if_neg Bool.false_ne_true, if_neg Bool.false_ne_true, Int.zero_add]
    exact bump_new c (offsB s m) [] (offsB_nodup s m)
theorem started_eq (n : Nat) (T : Int) (pre : List Int) (h : pre.length = n) : (if (!pre.isEmpty) = true then (pre.length : Int) * T else 0) + T = ((n + 1 : Nat) : Int) * T := by
  subst h
  cases pre with
  | nil => simp
  | cons x pre =>
    rw [if_pos (by rfl)]
    have : (((x :: pre).length + 1 : Nat) : Int) = ((x :: pre).length : Int) + 1 := by omega
    rw [this, Int.add_mul, Int.one_mul]
theorem step_many {s m : Int} (hs : 0 ≤ s ∧ s ≤ 20) {K : List Int} {T : Int} (hK : K ≠ []) (hn : K.Nodup) (d1 : PyData) (a4 a5 a6 a7 : Sl) (hnl0 : nolk [a5, a6, a7] = true) :
    ∃ y5 y6 y7, b_how_many_3 [.sh (.int s), .sh d1, .ok (cOf (K.map fun k => (k, T))), .sh (.int m), a4, a5, a6, a7] = some (.nx [.sh (.int s), .sh d1, .ok (cOf ((offsB s m).map fun k => (k, (K.length : Int) * T))), .sh (.int m), .un, y5, y6, y7]) ∧ nolk [y5, y6, y7] = true := by
  have hkeys : (K.map fun k => ((k, T) : Pr)).map (·.1) = K := by
    rw [List.map_map, show ((fun x : Pr => x.1) ∘ fun k => ((k, T) : Pr)) = id from rfl, List.map_id]
  have hb := offsB_len (m := m) hs.1
  have hb2 : (offsB s m).length ≤ 21 := by split at hb <;> omega
  have hkd := kD_c (K.map fun k => ((k, T) : Pr))
  rw [hkeys] at hkd
  have hvk : ∀ k ∈ K, valD (cOf (K.map fun k => ((k, T) : Pr))) (.inl k) = some (.int T) := fun k hk => valD_mem (x := (k, T)) (by rw [hkeys]; exact hn) (List.mem_map.mpr ⟨k, hk, rfl⟩)
  generalize cOf (K.map fun k => ((k, T) : Pr)) = C at *
  have key := forL_run (g := gVar 5) (F := b_how_many_2) (toD := PyData.int) (xs := K)
    (ρ := [.sh (.int s), .sh d1, .lk C, .sh (.int m), .ok (cOf []), a5, a6, a7])
    (Inv := fun pre ρ => ∃ y5 y6 y7, ρ = [.sh (.int s), .sh d1, .lk C, .sh (.int m), .ok (cOf (if (!pre.isEmpty) = true then (offsB s m).map fun k => (k, (pre.length : Int) * T) else [])), y5, y6, y7] ∧ nolk [y5, y6, y7] = true)
    ⟨a5, a6, a7, rfl, hnl0⟩ (fun pre k post ρ1 e ⟨y5, y6, y7, hρ, hnl⟩ => by
      subst hρ
      have hv := hvk k (by rw [e]; simp)
      have ht := sp_turns_to (s := s) (off := k) (m := m) hs
      have hlen : (if (!pre.isEmpty) = true then (offsB s m).map fun k => (k, (pre.length : Int) * T) else ([] : List Pr)).length ≤ 100 := by
        split
        · rw [List.length_map]
          omega
        · simp
      have hnl2 : nolk [y6, y7] = true := by
        unfold nolk at hnl ⊢
        rw [List.all_cons, Bool.and_eq_true] at hnl
        exact hnl.2
      obtain ⟨z6, z7, e2, hz⟩ := inner_loop (s := s) (off := k) (m := m) (c := T) hlen (.sh (.int s)) (.sh d1) (.lk C) (.sh (.int m)) _ hv y6 y7 rfl (tto_len hs) hnl2
      rw [one_more, started_eq pre.length T pre rfl] at e2
      have e9 : (if (!(pre ++ [k]).isEmpty) = true then (offsB s m).map fun k' => ((k', ((pre ++ [k]).length : Int) * T) : Pr) else []) = (offsB s m).map fun k' => (k', ((pre.length + 1 : Nat) : Int) * T) := by
        rw [if_pos (by simp), List.length_append]
        rfl
      refine ⟨[.sh (.int s), .sh d1, .lk C, .sh (.int m), .ok (cOf (if (!pre.isEmpty) = true then (offsB s m).map fun k => (k, (pre.length : Int) * T) else [])), .sh (.int k), y6, y7], rfl, [.sh (.int s), .sh d1, .lk C, .sh (.int m), .ok (cOf ((offsB s m).map fun k' => (k', ((pre.length + 1 : Nat) : Int) * T))), .sh (.int k), z6, z7], ?_, .sh (.int k), z6, z7, by rw [e9], ?_⟩
      · generalize (if (!pre.isEmpty) = true then (offsB s m).map fun k => (k, (pre.length : Int) * T) else ([] : List Pr)) = L0 at *
        generalize (offsB s m).map (fun k' => ((k', ((pre.length + 1 : Nat) : Int) * T) : Pr)) = L1 at *
        generalize hR : (tto s k m).map prD = R at *
        have it1 : (fItems (fFz (fCallR 3 F_turns_to (fCons (fVar 0) (fCons (fVar 5) (fCons (fVar 3) fNil)))))) [.sh (.int s), .sh d1, .lk C, .sh (.int m), .ok (cOf L0), .sh (.int k), y6, y7] = some (R, [.sh (.int s), .sh d1, .lk C, .sh (.int m), .ok (cOf L0), .sh (.int k), y6, y7]) := by simp [ht]
        unfold b_how_many_2
        rw [fFor_eq, it1, Option.bind_some]
        exact e2
      · unfold nolk at hz ⊢
        rw [List.all_cons, Bool.and_eq_true]
        exact ⟨rfl, hz⟩)
  obtain ⟨ρ', e1, y5, y6, y7, rfl, hnl⟩ := key
  have e8 : (!K.isEmpty) = true := by
    cases K with
    | nil => exact (hK rfl).elim
    | cons _ _ => rfl
  rw [if_pos e8] at e1
  refine ⟨y5, y6, y7, ?_, hnl⟩
  generalize (offsB s m).map (fun k => ((k, (K.length : Int) * T) : Pr)) = L1 at *
  have nl1 : nolk [.sh (.int s), .sh d1, .un, .sh (.int m), .ok (cOf L1), y5, y6, y7] = true := by
    unfold nolk at hnl ⊢
    exact hnl
  unfold b_how_many_3
  rw [fSeq_nx (ρ1 := [.sh (.int s), .sh d1, .ok C, .sh (.int m), .ok (cOf []), a5, a6, a7]) (by simp [cOf])]
  rw [fSeq_nx (ρ1 := [.sh (.int s), .sh d1, .un, .sh (.int m), .ok (cOf L1), y5, y6, y7]) (by
    show ((forL (gVar 5) b_how_many_2 (C.map fun p => kD p.1) [.sh (.int s), .sh d1, .lk C, .sh (.int m), .ok (cOf []), a5, a6, a7]).bind _) = _
    rw [hkd, e1, Option.bind_some]
    show (if nolk [.sh (.int s), .sh d1, .un, .sh (.int m), .ok (cOf L1), y5, y6, y7] = true then _ else _) = _
    rw [if_pos nl1]
    rfl)]
  simp
/-! the dict of a comprehension -/
theorem dcL_new {vs : List Nat} {g : FG} {tk tv : FE} {ρ : En} (c : Int) : ∀ (K2 K1 : List Int), (K1 ++ K2).Nodup → (∀ k ∈ K2, ∃ ρ1 ρ2 ρ3, g (.int k) ρ = some ρ1 ∧ tk ρ1 = some (.int k, ρ2) ∧ tv ρ2 = some (.int c, ρ3) ∧ wipeE ρ3 vs = ρ) →
    dcL vs g fYes tk tv (K2.map PyData.int) ρ (cOf (K1.map fun k => (k, c))) = some (cOf ((K1 ++ K2).map fun k => (k, c)), ρ)
  | [], K1, _, _ => by rw [List.append_nil]; rfl
  | k :: K2, K1, h, hk => by
    obtain ⟨ρ1, ρ2, ρ3, q1, q2, q3, q4⟩ := hk k List.mem_cons_self
    have h1 : k ∉ (K1.map fun k => ((k, c) : Pr)).map (·.1) := by
      rw [List.map_map, show ((fun x : Pr => x.1) ∘ fun k => ((k, c) : Pr)) = id from rfl, List.map_id]
      intro z
      exact (List.nodup_append.mp h).2.2 k z k List.mem_cons_self rfl
    have e3 : putD (cOf (K1.map fun k => (k, c))) (.inl k) (.int c) = cOf ((K1 ++ [k]).map fun k => (k, c)) := by
      rw [putD_c, (setI_new k c _ h1).1, List.map_append]
      rfl
    have ih := dcL_new (vs := vs) (g := g) (tk := tk) (tv := tv) (ρ := ρ) c K2 (K1 ++ [k]) (by rw [List.append_assoc]; exact h) fun y hy => hk y (List.mem_cons_of_mem _ hy)
    rw [List.append_assoc] at ih
    show (g (.int k) ρ).bind _ = _
    rw [q1, Option.bind_some]
    show (tk ρ1).bind _ = _
    rw [q2, Option.bind_some, q3, Option.bind_some]
    show dcL vs g fYes tk tv (K2.map PyData.int) (wipeE ρ3 vs) (putD (cOf (K1.map fun k => (k, c))) (.inl k) (.int c)) = _
    rw [q4, e3]
    exact ih
theorem valsI_c (T : Int) : ∀ K : List Int, valsI (cOf (K.map fun k => (k, T))) = some (K.map fun _ => T)
  | [] => rfl
  | k :: K => by
    show (valsI (cOf (K.map fun k => (k, T)))).map (T :: ·) = _
    rw [valsI_c T K]
    rfl
theorem sum_const (T : Int) : ∀ K : List Int, (K.map fun _ => T).sum = (K.length : Int) * T
  | [] => by simp
  | k :: K => by
    rw [List.map_cons, List.sum_cons, sum_const T K, List.length_cons]
    have : ((K.length + 1 : Nat) : Int) = (K.length : Int) + 1 := by omega
    rw [this, Int.add_mul, Int.one_mul, Int.add_comm]
theorem sp_how_many {s : Int} {l : List Int} (hs : 0 ≤ s ∧ s ≤ 20) (h : MvsOk l) : F_how_many [.int s, .list (l.map PyData.int)] = some (.sh (.int (manyT s (s + 1) l))) := by
  have e1 := sp_look_at_moved hs h
  have a1 := rg1_I hs
  have hr := rgI_len hs.1
  have hl : (rgI s).length ≤ 16000000 := by omega
  have c1 := dcL_new (vs := [5]) (g := gVar 5) (tk := fVar 5) (tv := fC (.int 1)) (ρ := [.sh (.int s), .sh (.list (l.map PyData.int)), .un, .un, .un, .un, .un, .un]) 1 (rgI s) [] (rgI_nodup s) fun k hk => ⟨[.sh (.int s), .sh (.list (l.map PyData.int)), .un, .un, .un, .sh (.int k), .un, .un], [.sh (.int s), .sh (.list (l.map PyData.int)), .un, .un, .un, .sh (.int k), .un, .un], [.sh (.int s), .sh (.list (l.map PyData.int)), .un, .un, .un, .sh (.int k), .un, .un], rfl, by simp, by simp, rfl⟩
  have key := forL_run (g := gVar 3) (F := b_how_many_3) (toD := PyData.int) (xs := l)
    (ρ := [.sh (.int s), .sh (.list (l.map PyData.int)), .ok (cOf ((rgI s).map fun k => (k, 1))), .un, .un, .un, .un, .un])
    (Inv := fun pre ρ => ∃ K T y3 y4 y5 y6 y7, ρ = [.sh (.int s), .sh (.list (l.map PyData.int)), .ok (cOf (K.map fun k => (k, T))), y3, y4, y5, y6, y7] ∧ nolk [y5, y6, y7] = true ∧ K ≠ [] ∧ K.Nodup ∧ (K.length : Int) * T = manyT s (s + 1) pre)
    ⟨rgI s, 1, _, _, _, _, _, rfl, rfl, (fun z => by rw [z] at hr; simp at hr; omega), rgI_nodup s, by rw [hr, Int.mul_one]; rfl⟩ (fun pre m post ρ1 e ⟨K, T, y3, y4, y5, y6, y7, hρ, hnl, hK, hn, ht⟩ => by
      subst hρ
      obtain ⟨z5, z6, z7, e2, hz⟩ := step_many (m := m) hs (T := T) hK hn (.list (l.map PyData.int)) y4 y5 y6 y7 hnl
      refine ⟨[.sh (.int s), .sh (.list (l.map PyData.int)), .ok (cOf (K.map fun k => (k, T))), .sh (.int m), y4, y5, y6, y7], rfl, _, e2, offsB s m, (K.length : Int) * T, _, _, _, _, _, rfl, hz, offsB_ne hs.1, offsB_nodup s m, ?_⟩
      rw [offsB_len hs.1, ht, manyT_app]
      show _ = (if m = 0 then manyT s (s + 1) pre * (s + 1) else manyT s (s + 1) pre)
      split
      · rw [Int.mul_comm]
      · rw [Int.one_mul])
  obtain ⟨ρ', e2, K, T, y3, y4, y5, y6, y7, rfl, _, _, _, ht⟩ := key
  have v1 := valsI_c T K
  have v2 := sum_const T K
  rw [ht] at v2
  rw [List.nil_append] at c1
  have c1' : dcL [5] (gVar 5) fYes (fVar 5) (fC (.int 1)) ((rgI s).map PyData.int) [.sh (.int s), .sh (.list (l.map PyData.int)), .un, .un, .un, .un, .un, .un] [] = _ := c1
  generalize cOf ((rgI s).map fun k => ((k, 1) : Pr)) = C0 at *
  generalize cOf (K.map fun k => ((k, T) : Pr)) = C1 at *
  simp [F_how_many, runF, b_how_many, startE, e1, a1, hl, c1', e2, v1, v2, fDc, fSumV]
/-- the law's own count -/
theorem sum_one (w t : Int) : ∀ n : Nat, ((List.range n).map fun (k : Nat) => w * (if (k : Int) = t then 1 else 0)).sum = if 0 ≤ t ∧ t < n then w else 0
  | 0 => by
    rw [if_neg (by omega)]
    rfl
  | n + 1 => by
    rw [List.range_succ, List.map_append, List.sum_append, sum_one w t n]
    simp only [List.map_cons, List.map_nil, List.sum_cons, List.sum_nil, Int.add_zero]
    by_cases h : (n : Int) = t
    · rw [if_pos h, if_neg (by omega), if_pos (by omega)]
      omega
    · rw [if_neg h, Int.mul_zero, Int.add_zero]
      by_cases h2 : 0 ≤ t ∧ t < n
      · rw [if_pos h2, if_pos (by omega)]
      · rw [if_neg h2, if_neg (by omega)]

theorem flatten_ones9 {α : Type} (n : Nat) (x : α) : (List.replicate n [x]).flatten = List.replicate n x := by
  induction n with
  | zero => rfl
  | succ n ih => rw [List.replicate_succ, List.flatten_cons, ih, List.replicate_succ]; rfl
theorem rep_sum (w : Int) : ∀ n : Nat, (List.replicate n w).sum = (n : Int) * w
  | 0 => by simp
  | n + 1 => by
    rw [List.replicate_succ, List.sum_cons, rep_sum w n]
    have : ((n + 1 : Nat) : Int) = (n : Int) + 1 := by omega
    rw [this, Int.add_mul, Int.one_mul, Int.add_comm]
theorem rep_ints (n : Nat) (w : Int) : List.replicate n (PyData.int w) = (List.replicate n w).map PyData.int := (List.map_replicate ..).symm
theorem mul_rep {s w : Int} (hs : 0 ≤ s ∧ s ≤ 20) : hMul (.list [.int w]) (.int (s + 1)) = some (.list ((List.replicate (s + 1).toNat w).map PyData.int)) := by
  have h1 : -9223372036854775808 ≤ s + 1 ∧ s + 1 < 9223372036854775808 ∧ [PyData.int w].length * (s + 1).toNat ≤ 16777216 := by
    refine ⟨by omega, by omega, ?_⟩
    show 1 * _ ≤ _
    omega
  have h2 : hMul (.list [.int w]) (.int (s + 1)) = some (.list (List.replicate (s + 1).toNat [PyData.int w]).flatten) := if_pos h1
  rw [h2, flatten_ones9, rep_ints]
theorem many_step {s w m : Int} (hs : 0 ≤ s ∧ s ≤ 20) {vs : List Int} (hw : vs.sum = w) (d1 : PyData) (s2 s4 s5 : Sl) (h2 : s2 = .sh (.list (vs.map PyData.int)) ∨ s2 = .ow (vs.map PyData.int)) :
    ∃ (vs' : List Int) (s2' s4' : Sl), b__law_many_1 [.sh (.int s), .sh d1, s2, .sh (.int m), s4, s5] = some (.nx [.sh (.int s), .sh d1, s2', .sh (.int m), s4', if m = 0 then s5 else .un]) ∧ (s2' = .sh (.list (vs'.map PyData.int)) ∨ s2' = .ow (vs'.map PyData.int)) ∧ vs'.sum = if m = 0 then w * (s + 1) else w := by
  have i1 := intsO_map vs
  by_cases hm : m = 0
  · subst hm
    have e1 := mul_rep (w := w) hs
    refine ⟨List.replicate (s + 1).toNat w, .sh (.list ((List.replicate (s + 1).toNat w).map PyData.int)), .sh (.int w), ?_, .inl rfl, ?_⟩
    · generalize (List.replicate (s + 1).toNat w).map PyData.int = R at *
      rcases h2 with rfl | rfl <;> simp [b__law_many_1, i1, hw, e1]
    · rw [rep_sum, if_pos rfl, Int.toNat_of_nonneg (by omega), Int.mul_comm]
  · obtain ⟨t, ht⟩ : ∃ t, t = if 0 < m then s else 0 := ⟨_, rfl⟩
    have ht2 : 0 ≤ t ∧ t < (s + 1).toNat := by
      subst ht
      split <;> omega
    have a1 := rg1_I hs
    have hr := rgI_len hs.1
    have hl : (rgI s).length ≤ 16000000 := by omega
    have hmul : ∀ b : Bool, hMul (.int w) (.int (if b = true then 1 else 0)) = some (.int (w * if b = true then 1 else 0)) := fun b => hMul_r (by cases b <;> decide)
    have cL : ∀ x2 : Sl, lcL [5] (gVar 5) fYes (fBin hMul (fVar 4) (fFz (fCall hInt (fCons (fBin hEq (fVar 5) (fIfE (fB (fBin hGt (fVar 3) (fC (.int 0)))) (fVar 0) (fC (.int 0)))) fNil)))) ((rgI s).map PyData.int) [.sh (.int s), .sh d1, x2, .sh (.int m), .sh (.int w), .un] = some ((rgI s).map fun k => PyData.int (w * if (k == t) = true then 1 else 0), [.sh (.int s), .sh d1, x2, .sh (.int m), .sh (.int w), .un]) := fun x2 =>
      lcL_map PyData.int (fun k => PyData.int (w * if (k == t) = true then 1 else 0)) (rgI s) fun k hk => ⟨[.sh (.int s), .sh d1, x2, .sh (.int m), .sh (.int w), .sh (.int k)], [.sh (.int s), .sh d1, x2, .sh (.int m), .sh (.int w), .sh (.int k)], rfl, by
        have := hmul (k == t)
        by_cases h0 : 0 < m
        · rw [if_pos h0] at ht
          subst ht
          simp only [beq_iff_eq] at this
          simp [h0, this]
        · rw [if_neg h0] at ht
          subst ht
          simp only [beq_iff_eq] at this
          simp [h0, this], rfl⟩
    refine ⟨(rgI s).map fun k => w * if (k == t) = true then 1 else 0, .ow (((rgI s).map fun k => w * if (k == t) = true then 1 else 0).map PyData.int), .sh (.int w), ?_, .inr rfl, ?_⟩
    · rw [List.map_map]
      have e9 : (PyData.int ∘ fun k => w * if (k == t) = true then 1 else 0) = fun k => PyData.int (w * if (k == t) = true then 1 else 0) := rfl
      rw [e9]
      generalize (rgI s).map (fun k => PyData.int (w * if (k == t) = true then 1 else 0)) = R at *
      rcases h2 with rfl | rfl <;> simp [b__law_many_1, i1, hw, hm, a1, cL, hl]
    · rw [if_neg hm]
      unfold rgI
      rw [List.map_map]
      have := sum_one w t (s + 1).toNat
      rw [if_pos ht2] at this
      refine Eq.trans ?_ this
      congr 1
      refine List.map_congr_left fun k _ => ?_
      show w * (if ((k : Int) == t) = true then 1 else 0) = _
      simp only [beq_iff_eq]
theorem sp_law_many {s : Int} {l : List Int} (hs : 0 ≤ s ∧ s ≤ 20) : F__law_many [.int s, .list (l.map PyData.int)] = some (.sh (.int (manyT s (s + 1) l))) := by
  have e1 := mul_rep (w := 1) hs
  have key := forL_run (g := gVar 3) (F := b__law_many_1) (toD := PyData.int) (xs := l)
    (ρ := [.sh (.int s), .sh (.list (l.map PyData.int)), .sh (.list ((List.replicate (s + 1).toNat 1).map PyData.int)), .un, .un, .un])
    (Inv := fun pre ρ => ∃ (vs : List Int) (s2 s3 s4 s5 : Sl), ρ = [.sh (.int s), .sh (.list (l.map PyData.int)), s2, s3, s4, s5] ∧ (s2 = .sh (.list (vs.map PyData.int)) ∨ s2 = .ow (vs.map PyData.int)) ∧ vs.sum = manyT s (s + 1) pre)
    ⟨_, _, _, _, _, rfl, .inl rfl, by rw [rep_sum, Int.mul_one, Int.toNat_of_nonneg (by omega)]; rfl⟩ (fun pre m post ρ1 e ⟨vs, s2, s3, s4, s5, hρ, h2, hv⟩ => by
      subst hρ
      obtain ⟨vs', s2', s4', e2, h3, h4⟩ := many_step (m := m) hs hv (.list (l.map PyData.int)) s2 s4 s5 h2
      refine ⟨[.sh (.int s), .sh (.list (l.map PyData.int)), s2, .sh (.int m), s4, s5], rfl, _, e2, vs', s2', _, s4', _, rfl, h3, ?_⟩
      rw [h4, manyT_app]
      rfl)
  obtain ⟨ρ', e2, vs, s2, s3, s4, s5, rfl, h2, hv⟩ := key
  have i1 := intsO_map vs
  generalize hR : (List.replicate (s + 1).toNat 1).map PyData.int = R at *
  rcases h2 with rfl | rfl <;> simp [F__law_many, runF, b__law_many, startE, e1, e2, i1, hv]
/-! least, greatest, sorted -/
theorem hMin_of {l : List Int} {m : Int} (hm : m ∈ l) (hle : ∀ x ∈ l, m ≤ x) : hMin [.list (l.map PyData.int)] = some (.sh (.int m)) := by
  cases l with
  | nil => cases hm
  | cons a r =>
    show (match intsO ((a :: r).map PyData.int) with
      | some (a :: r) => some (Sl.sh (.int (minI a r)))
      | _ => none) = _
    rw [intsO_map]
    obtain ⟨h1, h2⟩ := minI_spec r a
    show some (Sl.sh (.int (minI a r))) = _
    rw [Int.le_antisymm (h2 m hm) (hle _ h1)]
theorem hMax_of {l : List Int} {m : Int} (hm : m ∈ l) (hle : ∀ x ∈ l, x ≤ m) : hMax [.list (l.map PyData.int)] = some (.sh (.int m)) := by
  cases l with
  | nil => cases hm
  | cons a r =>
    show (match intsO ((a :: r).map PyData.int) with
      | some (a :: r) => some (Sl.sh (.int (maxI a r)))
      | _ => none) = _
    rw [intsO_map]
    obtain ⟨h1, h2⟩ := maxI_spec r a
    show some (Sl.sh (.int (maxI a r))) = _
    rw [Int.le_antisymm (hle _ h1) (h2 m hm)]
theorem srt_first {l : List Int} {m : Int} (hm : m ∈ l) (hle : ∀ x ∈ l, m ≤ x) : atI ((srtI l).map PyData.int) 0 = some (.int m) := by
  have p := srtI_perm l
  have q := srtI_sorted l
  cases h : srtI l with
  | nil =>
    rw [h] at p
    have := p.mem_iff.mpr hm
    cases this
  | cons a r =>
    rw [h] at p q
    have h1 : a ∈ l := p.mem_iff.mp List.mem_cons_self
    have h2 := hle a h1
    have h3 : a ≤ m := by
      rcases List.mem_cons.mp (p.mem_iff.mpr hm) with e | e
      · omega
      · exact (List.pairwise_cons.mp q).1 m e
    have : a = m := by omega
    subst this
    exact atI_0 _ _
theorem atI_end {α : Type} (xs : List α) (h : xs ≠ []) : atI xs (-1) = some (xs.getLast h) := by
  have hl : 0 < xs.length := List.length_pos_iff.mpr h
  have e : ixN xs.length (-1) = some (xs.length - 1) := by
    unfold ixN
    rw [if_neg (by omega), if_pos (by omega)]
    congr 1
    omega
  unfold atI
  rw [e, Option.bind_some, List.getLast_eq_getElem, List.getElem?_eq_getElem (by omega)]
theorem last_max : ∀ {l : List Int} (h : l ≠ []), l.Pairwise (· ≤ ·) → ∀ x ∈ l, x ≤ l.getLast h
  | [a], _, _, x, hx => by
    rw [List.mem_singleton] at hx
    subst hx
    exact Int.le_refl _
  | a :: b :: r, _, q, x, hx => by
    have ih := last_max (l := b :: r) (by simp) (List.pairwise_cons.mp q).2
    rw [List.getLast_cons (by simp)]
    rcases List.mem_cons.mp hx with e | hx
    · subst e
      exact Int.le_trans ((List.pairwise_cons.mp q).1 b List.mem_cons_self) (ih b List.mem_cons_self)
    · exact ih x hx
theorem srt_last {l : List Int} {m : Int} (hm : m ∈ l) (hle : ∀ x ∈ l, x ≤ m) : atI ((srtI l).map PyData.int) (-1) = some (.int m) := by
  have p := srtI_perm l
  have q := srtI_sorted l
  have hne : srtI l ≠ [] := fun z => by
    rw [z] at p
    have := p.mem_iff.mpr hm
    cases this
  have hne2 : (srtI l).map PyData.int ≠ [] := fun z => hne (List.map_eq_nil_iff.mp z)
  rw [atI_end _ hne2, List.getLast_map]
  have h1 : (srtI l).getLast hne ∈ l := p.mem_iff.mp (List.getLast_mem hne)
  have h2 := hle _ h1
  have h3 := last_max hne q m (p.mem_iff.mpr hm)
  congr 2
  omega

/-! the least and the greatest turns seen -/
def offA (s m : Int) : Int := if 0 < m then s else 0
def offZ (s m : Int) : Int := if m < 0 then 0 else s
def loT (s b m : Int) : Int := if 0 < m then m + s - b else m - b
def hiT (s a m : Int) : Int := if 0 < m then m + s - a else if m < 0 then m - a else s - a
def seenT (s : Int) : Int → Int → List Int → List Pr
  | _, _, [] => []
  | a, b, m :: l => (loT s b m, hiT s a m) :: seenT s (offA s m) (offZ s m) l
def endA (s : Int) : Int → List Int → Int
  | a, [] => a
  | _, m :: l => endA s (offA s m) l
def endZ (s : Int) : Int → List Int → Int
  | b, [] => b
  | _, m :: l => endZ s (offZ s m) l
theorem endA_snoc (s m : Int) : ∀ (l : List Int) (a : Int), endA s a (l ++ [m]) = offA s m
  | [], _ => rfl
  | x :: l, _ => endA_snoc s m l _
theorem endZ_snoc (s m : Int) : ∀ (l : List Int) (a : Int), endZ s a (l ++ [m]) = offZ s m
  | [], _ => rfl
  | x :: l, _ => endZ_snoc s m l _
theorem seenT_snoc (s m : Int) : ∀ (l : List Int) (a b : Int), seenT s a b (l ++ [m]) = seenT s a b l ++ [(loT s (endZ s b l) m, hiT s (endA s a l) m)]
  | [], _, _ => rfl
  | x :: l, a, b => by
    show (_, _) :: seenT s _ _ (l ++ [m]) = _
    rw [seenT_snoc s m l]
    rfl
theorem seenT_len (s : Int) : ∀ (l : List Int) (a b : Int), (seenT s a b l).length = l.length
  | [], _, _ => rfl
  | x :: l, a, b => by
    show (seenT s _ _ l).length + 1 = l.length + 1
    rw [seenT_len s l]
/-- the offs are these: from a to b -/
structure Span (s : Int) (O : List Int) (a b : Int) : Prop where
  ma : a ∈ O
  mb : b ∈ O
  bd : ∀ x ∈ O, a ≤ x ∧ x ≤ b
  lo : 0 ≤ a
  hi : b ≤ s
theorem offsB_span {s : Int} (m : Int) (hs : 0 ≤ s) : Span s (offsB s m) (offA s m) (offZ s m) := by
  unfold offsB offA offZ
  by_cases h1 : 0 < m
  · have h2 : ¬ m < 0 := by omega
    simp only [h1, h2, if_true, if_false]
    exact ⟨by simp, by simp, fun x hx => by rw [List.mem_singleton] at hx; omega, hs, Int.le_refl _⟩
  · by_cases h2 : m < 0
    · simp only [h1, h2, if_true, if_false]
      exact ⟨by simp, by simp, fun x hx => by rw [List.mem_singleton] at hx; omega, Int.le_refl _, hs⟩
    · simp only [h1, h2, if_false]
      exact ⟨(mem_rgI hs).mpr ⟨Int.le_refl _, hs⟩, (mem_rgI hs).mpr ⟨hs, Int.le_refl _⟩, fun x hx => (mem_rgI hs).mp hx, Int.le_refl _, Int.le_refl _⟩
theorem offsB_sorted (s m : Int) : (offsB s m).Pairwise (· ≤ ·) := by
  unfold offsB
  split
  · simp
  · split
    · simp
    · exact rgI_sorted s
theorem tto_mem {s off m t : Int} (hs : 0 ≤ s) : t ∈ (tto s off m).map (·.1) ↔ if 0 < m then t = m + s - off else if m < 0 then t = m - off else 0 - off ≤ t ∧ t ≤ s - off := by
  unfold tto
  by_cases h1 : 0 < m
  · simp [h1]
  · by_cases h2 : m < 0
    · simp [h1, h2]
    · rw [if_neg h1, if_neg h2, if_neg h1, if_neg h2, List.map_map]
      show t ∈ (rgI s).map (fun x => x - off) ↔ _
      rw [List.mem_map]
      constructor
      · rintro ⟨x, hx, rfl⟩
        have := (mem_rgI hs).mp hx
        omega
      · intro h
        exact ⟨t + off, (mem_rgI hs).mpr (by omega), by omega⟩
theorem some_mem {s m t : Int} {O : List Int} : t ∈ (O.flatMap fun o => tto s o m).map (·.1) ↔ ∃ o ∈ O, t ∈ (tto s o m).map (·.1) := by
  simp only [List.mem_map, List.mem_flatMap]
  constructor
  · rintro ⟨x, ⟨o, ho, hx⟩, rfl⟩
    exact ⟨o, ho, x, hx, rfl⟩
  · rintro ⟨o, ho, x, hx, rfl⟩
    exact ⟨x, ⟨o, ho, hx⟩, rfl⟩
theorem some_lo {s m a b : Int} {O : List Int} (hs : 0 ≤ s) (h : Span s O a b) : loT s b m ∈ (O.flatMap fun o => tto s o m).map (·.1) ∧ ∀ t ∈ (O.flatMap fun o => tto s o m).map (·.1), loT s b m ≤ t := by
  refine ⟨some_mem.mpr ⟨b, h.mb, (tto_mem hs).mpr ?_⟩, fun t ht => ?_⟩
  · unfold loT
    have := h.hi
    have := h.bd _ h.ma
    have := h.lo
    repeat' split
    all_goals first | rfl | omega
  · obtain ⟨o, ho, ht⟩ := some_mem.mp ht
    have h2 := (tto_mem hs).mp ht
    have h3 := h.bd o ho
    unfold loT
    repeat' split at h2
    all_goals (repeat' split)
    all_goals omega
theorem some_hi {s m a b : Int} {O : List Int} (hs : 0 ≤ s) (h : Span s O a b) : hiT s a m ∈ (O.flatMap fun o => tto s o m).map (·.1) ∧ ∀ t ∈ (O.flatMap fun o => tto s o m).map (·.1), t ≤ hiT s a m := by
  refine ⟨some_mem.mpr ⟨a, h.ma, (tto_mem hs).mpr ?_⟩, fun t ht => ?_⟩
  · unfold hiT
    have := h.hi
    have := h.bd _ h.mb
    have := h.lo
    repeat' split
    all_goals first | rfl | omega
  · obtain ⟨o, ho, ht⟩ := some_mem.mp ht
    have h2 := (tto_mem hs).mp ht
    have h3 := h.bd o ho
    unfold hiT
    repeat' split at h2
    all_goals (repeat' split)
    all_goals omega
/-! the keys of a dict that has them once -/
def addK (ks : List Int) (k : Int) : List Int := if k ∈ ks then ks else ks ++ [k]
def kOf (ks : List Int) : List (Key × PyData) := ks.map fun k => (Sum.inl k, .bool true)
theorem putD_k (k : Int) : ∀ ks : List Int, putD (kOf ks) (.inl k) (.bool true) = kOf (addK ks k)
  | [] => rfl
  | x :: ks => by
    have ih := putD_k k ks
    unfold addK at ih ⊢
    show (if (Sum.inl x : Key) = .inl k then ((Sum.inl x : Key), PyData.bool true) :: (kOf ks).map (fun q => if q.1 = .inl k then (q.1, PyData.bool true) else q) else ((Sum.inl x : Key), PyData.bool true) :: putD (kOf ks) (.inl k) (.bool true)) = _
    by_cases h : x = k
    · subst h
      rw [if_pos rfl, if_pos List.mem_cons_self]
      show _ = ((Sum.inl x : Key), PyData.bool true) :: kOf ks
      congr 1
      unfold kOf
      rw [List.map_map]
      refine List.map_congr_left fun y _ => ?_
      show (if (Sum.inl y : Key) = .inl x then ((Sum.inl y : Key), PyData.bool true) else ((Sum.inl y : Key), PyData.bool true)) = _
      rw [ite_self]
    · rw [if_neg fun e => h (Sum.inl.inj e), ih]
      by_cases h2 : k ∈ ks
      · rw [if_pos h2, if_pos (List.mem_cons_of_mem _ h2)]
        rfl
      · rw [if_neg h2, if_neg fun z => (List.mem_cons.mp z).elim (fun e => h e.symm) h2]
        rfl
theorem addK_facts : ∀ (l ks : List Int), ks.Nodup → (l.foldl addK ks).Nodup ∧ ∀ x, x ∈ l.foldl addK ks ↔ x ∈ ks ∨ x ∈ l
  | [], ks, h => ⟨h, fun x => by simp⟩
  | k :: l, ks, h => by
    have h1 : (addK ks k).Nodup := by
      unfold addK
      split
      · exact h
      · rename_i hk
        rw [List.nodup_append]
        refine ⟨h, by simp, fun a ha b hb => ?_⟩
        rw [List.mem_singleton] at hb
        subst hb
        exact fun e => hk (e ▸ ha)
    have h2 : ∀ x, x ∈ addK ks k ↔ x ∈ ks ∨ x = k := fun x => by
      unfold addK
      split
      · rename_i hk
        constructor
        · exact .inl
        · rintro (z | z)
          · exact z
          · exact z ▸ hk
      · rw [List.mem_append, List.mem_singleton]
    obtain ⟨i1, i2⟩ := addK_facts l (addK ks k) h1
    refine ⟨i1, fun x => ?_⟩
    rw [List.foldl_cons, i2 x, h2 x, List.mem_cons]
    constructor
    · rintro ((z | z) | z)
      · exact .inl z
      · exact .inr (.inl z)
      · exact .inr (.inr z)
    · rintro (z | z | z)
      · exact .inl (.inl z)
      · exact .inl (.inr z)
      · exact .inr z
theorem keysI_k : ∀ ks : List Int, keysI (kOf ks) = some ks
  | [] => rfl
  | k :: ks => by
    show (keysI (kOf ks)).map (k :: ·) = _
    rw [keysI_k ks]
    rfl
theorem dcL_keys {vs : List Nat} {g : FG} {tk tv : FE} {ρ : En} : ∀ (L : List Pr) (ks : List Int), (∀ x ∈ L, ∃ ρ1 ρ2 ρ3, g (prD x) ρ = some ρ1 ∧ tk ρ1 = some (.int x.2, ρ2) ∧ tv ρ2 = some (.bool true, ρ3) ∧ wipeE ρ3 vs = ρ) →
    dcL vs g fYes tk tv (L.map prD) ρ (kOf ks) = some (kOf ((L.map (·.2)).foldl addK ks), ρ)
  | [], ks, _ => rfl
  | x :: L, ks, hk => by
    obtain ⟨ρ1, ρ2, ρ3, q1, q2, q3, q4⟩ := hk x List.mem_cons_self
    have ih := dcL_keys (vs := vs) (g := g) (tk := tk) (tv := tv) (ρ := ρ) L (addK ks x.2) fun y hy => hk y (List.mem_cons_of_mem _ hy)
    show (g (prD x) ρ).bind _ = _
    rw [q1, Option.bind_some]
    show (tk ρ1).bind _ = _
    rw [q2, Option.bind_some, q3, Option.bind_some]
    show dcL vs g fYes tk tv (L.map prD) (wipeE ρ3 vs) (putD (kOf ks) (.inl x.2) (.bool true)) = _
    rw [q4, putD_k]
    exact ih
theorem some_keys {s m : Int} {O : List Int} (hO : O ≠ []) : srtI (((O.flatMap fun o => tto s o m).map (·.2)).foldl addK []) = offsB s m := by
  obtain ⟨h1, h2⟩ := addK_facts ((O.flatMap fun o => tto s o m).map (·.2)) [] List.nodup_nil
  generalize ((O.flatMap fun o => tto s o m).map (·.2)).foldl addK [] = K at *
  refine sorted_one ((srtI_perm K).trans ?_) (srtI_sorted K) (offsB_sorted s m)
  rw [List.perm_ext_iff_of_nodup h1 (offsB_nodup s m)]
  intro x
  rw [h2 x]
  constructor
  · rintro (z | z)
    · cases z
    · obtain ⟨y, hy, rfl⟩ := List.mem_map.mp z
      obtain ⟨o, _, hy⟩ := List.mem_flatMap.mp hy
      rw [← tto_snd s o m]
      exact List.mem_map_of_mem hy
  · intro z
    cases O with
    | nil => exact (hO rfl).elim
    | cons o O =>
      rw [← tto_snd s o m] at z
      obtain ⟨y, hy, rfl⟩ := List.mem_map.mp z
      exact .inr (List.mem_map_of_mem (List.mem_flatMap.mpr ⟨o, List.mem_cons_self, hy⟩))
theorem flat_len {s m : Int} (hs : 0 ≤ s ∧ s ≤ 20) : ∀ O : List Int, (O.flatMap fun o => tto s o m).length ≤ O.length * 21
  | [] => Nat.le_refl _
  | o :: O => by
    rw [List.flatMap_cons, List.length_append, List.length_cons]
    have h1 := flat_len (m := m) hs O
    have h2 := tto_len (off := o) (m := m) hs
    omega
theorem seen_step {s m a b : Int} {O : List Int} {fd : List Pr} (hs : 0 ≤ s ∧ s ≤ 20) (hO : Span s O a b) (hOl : O.length ≤ 21) (hfd : fd.length ≤ 100) (d1 : PyData) (s3 s5 s6 s7 : Sl) (h3 : s3 = .ow (O.map PyData.int) ∨ s3 = .sh (.list (O.map PyData.int))) :
    ∃ s5' : Sl, b_turns_seen_1 [.sh (.int s), .sh d1, .ow (fd.map prD), s3, .sh (.int m), s5, s6, s7] = some (.nx [.sh (.int s), .sh d1, .ow ((fd ++ [(loT s b m, hiT s a m)]).map prD), .ow ((offsB s m).map PyData.int), .sh (.int m), s5', .un, .un]) := by
  have hlo := some_lo (m := m) hs.1 hO
  have hhi := some_hi (m := m) hs.1 hO
  have hfl := flat_len (m := m) hs O
  have hk := some_keys (s := s) (m := m) (O := O) (fun z => by have := hO.ma; rw [z] at this; cases this)
  have hkl : (((O.flatMap fun o => tto s o m).map (·.2)).foldl addK []).length < 64 := by
    have h1 := (srtI_perm (((O.flatMap fun o => tto s o m).map (·.2)).foldl addK [])).length_eq
    rw [hk] at h1
    have h2 := offsB_len (m := m) hs.1
    split at h2 <;> omega
  have hmin := hMin_of hlo.1 hlo.2
  have hmax := hMax_of hhi.1 hhi.2
  have c2 : lcL2 [6, 7] [7] (gVar 6) fYes (fItems (fFz (fCallR 3 F_turns_to (fCons (fVar 0) (fCons (fVar 6) (fCons (fVar 4) fNil)))))) (gVar 7) fYes (fVar 7) (O.map PyData.int) [.sh (.int s), .sh d1, .ow (fd.map prD), .sh (.list (O.map PyData.int)), .sh (.int m), s5, .un, .un] = some (O.flatMap fun o => (tto s o m).map prD, [.sh (.int s), .sh d1, .ow (fd.map prD), .sh (.list (O.map PyData.int)), .sh (.int m), s5, .un, .un]) :=
    lcL2_map PyData.int (fun o => (tto s o m).map prD) O fun o ho => by
      have ht := sp_turns_to (s := s) (off := o) (m := m) hs
      refine ⟨[.sh (.int s), .sh d1, .ow (fd.map prD), .sh (.list (O.map PyData.int)), .sh (.int m), s5, .sh (.int o), .un], (tto s o m).map prD, [.sh (.int s), .sh d1, .ow (fd.map prD), .sh (.list (O.map PyData.int)), .sh (.int m), s5, .sh (.int o), .un], [.sh (.int s), .sh d1, .ow (fd.map prD), .sh (.list (O.map PyData.int)), .sh (.int m), s5, .sh (.int o), .un], rfl, ?_, ?_, rfl⟩
      · generalize (tto s o m).map prD = R at *
        simp [ht]
      · exact lcL_map prD prD (tto s o m) fun x hx => ⟨_, [.sh (.int s), .sh d1, .ow (fd.map prD), .sh (.list (O.map PyData.int)), .sh (.int m), s5, .sh (.int o), .sh (prD x)], rfl, by simp, rfl⟩
  have e2 : (O.flatMap fun o => (tto s o m).map prD) = (O.flatMap fun o => tto s o m).map prD := by
    rw [List.map_flatMap]
  rw [e2] at c2
  generalize O.flatMap (fun o => tto s o m) = L at *
  have hL : L.length ≤ 16000000 := by omega
  have c7 : lcL [7] (gVar 7) fYes (fBin hIx (fVar 7) (fC (.int 0))) (L.map prD) [.sh (.int s), .sh d1, .ow (fd.map prD), .sh (.list (O.map PyData.int)), .sh (.int m), .sh (.list (L.map prD)), .un, .un] = some ((L.map (·.1)).map PyData.int, [.sh (.int s), .sh d1, .ow (fd.map prD), .sh (.list (O.map PyData.int)), .sh (.int m), .sh (.list (L.map prD)), .un, .un]) := by
    rw [List.map_map]
    exact lcL_map prD _ L fun x hx => ⟨[.sh (.int s), .sh d1, .ow (fd.map prD), .sh (.list (O.map PyData.int)), .sh (.int m), .sh (.list (L.map prD)), .un, .sh (prD x)], [.sh (.int s), .sh d1, .ow (fd.map prD), .sh (.list (O.map PyData.int)), .sh (.int m), .sh (.list (L.map prD)), .un, .sh (prD x)], rfl, by simp [prD], rfl⟩
  have c8 : ∀ F2 : List Pr, dcL [7] (gVar 7) fYes (fBin hIx (fVar 7) (fC (.int 1))) (fC (.bool true)) (L.map prD) [.sh (.int s), .sh d1, .ow (F2.map prD), .sh (.list (O.map PyData.int)), .sh (.int m), .sh (.list (L.map prD)), .un, .un] [] = some (kOf ((L.map (·.2)).foldl addK []), [.sh (.int s), .sh d1, .ow (F2.map prD), .sh (.list (O.map PyData.int)), .sh (.int m), .sh (.list (L.map prD)), .un, .un]) := fun F2 =>
    dcL_keys (vs := [7]) (g := gVar 7) L [] fun x hx => ⟨[.sh (.int s), .sh d1, .ow (F2.map prD), .sh (.list (O.map PyData.int)), .sh (.int m), .sh (.list (L.map prD)), .un, .sh (prD x)], [.sh (.int s), .sh d1, .ow (F2.map prD), .sh (.list (O.map PyData.int)), .sh (.int m), .sh (.list (L.map prD)), .un, .sh (prD x)], [.sh (.int s), .sh d1, .ow (F2.map prD), .sh (.list (O.map PyData.int)), .sh (.int m), .sh (.list (L.map prD)), .un, .sh (prD x)], rfl, by simp [prD], by simp, rfl⟩
  have k1 := keysI_k ((L.map (·.2)).foldl addK [])
  generalize (L.map (·.2)).foldl addK [] = K at *
  generalize hA : (L.map (·.1)).map PyData.int = A at *
  have hAl : A.length = L.length := by rw [← hA, List.length_map, List.length_map]
  generalize hX : L.map prD = X at *
  have hXl : X.length = L.length := by rw [← hX, List.length_map]
  have hfl2 : (fd.map prD).length < 16777216 := by rw [List.length_map]; omega
  have e5 : (fd ++ [(loT s b m, hiT s a m)]).map prD = fd.map prD ++ [.tuple [.int (loT s b m), .int (hiT s a m)]] := by
    rw [List.map_append]
    rfl
  have c9 := c8 (fd ++ [(loT s b m, hiT s a m)])
  rw [e5] at c9
  refine ⟨.sh (.list X), ?_⟩
  rw [e5]
  unfold b_turns_seen_1
  rw [fSeq_nx (ρ1 := [.sh (.int s), .sh d1, .ow (fd.map prD), .sh (.list (O.map PyData.int)), .sh (.int m), .ow X, .un, .un]) (by rcases h3 with rfl | rfl <;> simp [fLc2, c2, hXl, hL])]
  generalize fd.map prD = FD at *
  rw [fSeq_nx (ρ1 := [.sh (.int s), .sh d1, .ow (FD ++ [.tuple [.int (loT s b m), .int (hiT s a m)]]), .sh (.list (O.map PyData.int)), .sh (.int m), .sh (.list X), .un, .un]) (by simp [c7, hXl, hL, hmin, hmax, hfl2])]
  simp [fSortD, fDc, c9, hXl, hL, k1, hkl, hk]

theorem sp_turns_seen {s : Int} {l : List Int} (hs : 0 ≤ s ∧ s ≤ 20) (h : MvsOk l) : F_turns_seen [.int s, .list (l.map PyData.int)] = some (.ow ((seenT s 0 s l).map prD)) := by
  have e1 := sp_look_at_moved hs h
  have e2 : rangeD 0 (s + 1).toNat = (rgI s).map PyData.int := by
    rw [rangeD_map]
    unfold rgI
    rw [List.map_map]
    rfl
  have hr := rgI_len hs.1
  have h0 : Span s (rgI s) 0 s := ⟨(mem_rgI hs.1).mpr ⟨Int.le_refl _, hs.1⟩, (mem_rgI hs.1).mpr ⟨hs.1, Int.le_refl _⟩, fun x hx => (mem_rgI hs.1).mp hx, Int.le_refl _, Int.le_refl _⟩
  have key := forL_run (g := gVar 4) (F := b_turns_seen_1) (toD := PyData.int) (xs := l)
    (ρ := [.sh (.int s), .sh (.list (l.map PyData.int)), .ow [], .ow ((rgI s).map PyData.int), .un, .un, .un, .un])
    (Inv := fun pre ρ => ∃ (O : List Int) (s3 s4 s5 s6 s7 : Sl), ρ = [.sh (.int s), .sh (.list (l.map PyData.int)), .ow ((seenT s 0 s pre).map prD), s3, s4, s5, s6, s7] ∧ (s3 = .ow (O.map PyData.int) ∨ s3 = .sh (.list (O.map PyData.int))) ∧ Span s O (endA s 0 pre) (endZ s s pre) ∧ O.length ≤ 21)
    ⟨rgI s, _, _, _, _, _, rfl, .inl rfl, h0, by omega⟩ (fun pre m post ρ1 e ⟨O, s3, s4, s5, s6, s7, hρ, h3, hO, hOl⟩ => by
      subst hρ
      have hl : (seenT s 0 s pre).length ≤ 100 := by
        rw [seenT_len]
        have := congrArg List.length e
        rw [List.length_append] at this
        have := h.1
        omega
      obtain ⟨s5', e3⟩ := seen_step (m := m) hs hO hOl hl (.list (l.map PyData.int)) s3 s5 s6 s7 h3
      refine ⟨[.sh (.int s), .sh (.list (l.map PyData.int)), .ow ((seenT s 0 s pre).map prD), s3, .sh (.int m), s5, s6, s7], rfl, _, e3, offsB s m, _, _, _, _, _, by rw [seenT_snoc], .inl rfl, ?_, ?_⟩
      · rw [endA_snoc, endZ_snoc]
        exact offsB_span m hs.1
      · have := offsB_len (m := m) hs.1
        split at this <;> omega)
  obtain ⟨ρ', e3, O, s3, s4, s5, s6, s7, rfl, _⟩ := key
  have e4 : 0 ≤ s + 1 ∧ s + 1 ≤ 16000000 := by omega
  generalize (rgI s).map PyData.int = R at *
  simp [F_turns_seen, runF, b_turns_seen, startE, e1, e2, e3, e4]
/-! all rows -/
abbrev Rw := Int × List Int
def rowD (x : Rw) : PyData := .tuple [.int x.1, .list (x.2.map PyData.int)]
def extR (s m : Int) (x : Rw) : List Rw := (tto s x.1 m).map fun y => (y.2, x.2 ++ [y.1])
def rowsT (s : Int) (l : List Int) : List Rw := l.foldl (fun F m => F.flatMap (extR s m)) ((rgI s).map fun o => (o, []))
theorem rowsT_snoc (s m : Int) (l : List Int) : rowsT s (l ++ [m]) = (rowsT s l).flatMap (extR s m) := by
  unfold rowsT
  rw [List.foldl_append]
  rfl
theorem extR_len {s m : Int} {x : Rw} (hs : 0 ≤ s) : ((extR s m x).length : Int) = if m = 0 then s + 1 else 1 := by
  have h1 := congrArg List.length (tto_snd s x.1 m)
  rw [List.length_map] at h1
  unfold extR
  rw [List.length_map, h1]
  exact offsB_len hs
theorem flat_const {α β : Type} (f : α → List β) (n : Int) (h : ∀ x, ((f x).length : Int) = n) : ∀ l : List α, ((l.flatMap f).length : Int) = (l.length : Int) * n
  | [] => by simp
  | x :: l => by
    rw [List.flatMap_cons, List.length_append, List.length_cons]
    have h1 := flat_const f n h l
    have h2 := h x
    have h3 : (((f x).length + (l.flatMap f).length : Nat) : Int) = ((f x).length : Int) + ((l.flatMap f).length : Int) := by omega
    have h4 : ((l.length + 1 : Nat) : Int) = (l.length : Int) + 1 := by omega
    rw [h3, h4, h1, h2, Int.add_mul, Int.one_mul, Int.add_comm]
structure RW (s : Int) (pre : List Int) (F : List Rw) : Prop where
  len : (F.length : Int) = manyT s (s + 1) pre
  rl : ∀ x ∈ F, x.2.length = pre.length
  sp : Span s (F.map (·.1)) (endA s 0 pre) (endZ s s pre)
  col : ∀ (k : Nat) (lo hi : Int), (seenT s 0 s pre)[k]? = some (lo, hi) → (∃ x ∈ F, x.2[k]? = some lo) ∧ (∃ x ∈ F, x.2[k]? = some hi) ∧ ∀ x ∈ F, ∀ t, x.2[k]? = some t → lo ≤ t ∧ t ≤ hi
theorem ext_keeps {s m : Int} {F : List Rw} (hs : 0 ≤ s) {x : Rw} (hx : x ∈ F) {k : Nat} {t : Int} (hk : x.2[k]? = some t) : ∃ y ∈ F.flatMap (extR s m), y.2[k]? = some t := by
  have hne : tto s x.1 m ≠ [] := fun z => by
    have h1 := tto_snd s x.1 m
    rw [z] at h1
    exact offsB_ne hs h1.symm
  obtain ⟨y, r, e⟩ := List.exists_cons_of_ne_nil hne
  refine ⟨(y.2, x.2 ++ [y.1]), List.mem_flatMap.mpr ⟨x, hx, List.mem_map.mpr ⟨y, by rw [e]; exact List.mem_cons_self, rfl⟩⟩, ?_⟩
  show (x.2 ++ [y.1])[k]? = some t
  rw [List.getElem?_append_left (List.getElem?_eq_some_iff.mp hk).1]
  exact hk
theorem RW.step {s m : Int} {pre : List Int} {F : List Rw} (hs : 0 ≤ s) (h : RW s pre F) : RW s (pre ++ [m]) (F.flatMap (extR s m)) := by
  have hfst : ∀ y, y ∈ F.flatMap (extR s m) → ∃ x ∈ F, ∃ z ∈ tto s x.1 m, y = (z.2, x.2 ++ [z.1]) := fun y hy => by
    obtain ⟨x, hx, hy⟩ := List.mem_flatMap.mp hy
    obtain ⟨z, hz, rfl⟩ := List.mem_map.mp hy
    exact ⟨x, hx, z, hz, rfl⟩
  obtain ⟨x0, hx0, _⟩ := List.mem_map.mp h.sp.ma
  have hin : ∀ o ∈ offsB s m, o ∈ (F.flatMap (extR s m)).map (·.1) := fun o ho => by
    rw [← tto_snd s x0.1 m] at ho
    obtain ⟨z, hz, rfl⟩ := List.mem_map.mp ho
    exact List.mem_map.mpr ⟨(z.2, x0.2 ++ [z.1]), List.mem_flatMap.mpr ⟨x0, hx0, List.mem_map.mpr ⟨z, hz, rfl⟩⟩, rfl⟩
  have hout : ∀ o ∈ (F.flatMap (extR s m)).map (·.1), o ∈ offsB s m := fun o ho => by
    obtain ⟨y, hy, rfl⟩ := List.mem_map.mp ho
    obtain ⟨x, _, z, hz, rfl⟩ := hfst y hy
    rw [← tto_snd s x.1 m]
    exact List.mem_map_of_mem hz
  have sp := offsB_span m hs
  refine ⟨?_, fun y hy => ?_, ?_, fun k lo hi hk => ?_⟩
  · rw [flat_const (extR s m) (if m = 0 then s + 1 else 1) (fun x => extR_len hs), h.len, manyT_app]
    show _ = (if m = 0 then manyT s (s + 1) pre * (s + 1) else manyT s (s + 1) pre)
    split
    · rfl
    · rw [Int.mul_one]
  · obtain ⟨x, hx, z, hz, rfl⟩ := hfst y hy
    rw [List.length_append, List.length_append, h.rl x hx]
    rfl
  · rw [endA_snoc, endZ_snoc]
    exact ⟨hin _ sp.ma, hin _ sp.mb, fun o ho => sp.bd o (hout o ho), sp.lo, sp.hi⟩
  · rw [seenT_snoc] at hk
    by_cases hlt : k < (seenT s 0 s pre).length
    · rw [List.getElem?_append_left hlt] at hk
      obtain ⟨⟨x1, h1, g1⟩, ⟨x2, h2, g2⟩, h3⟩ := h.col k lo hi hk
      refine ⟨ext_keeps hs h1 g1, ext_keeps hs h2 g2, fun y hy t ht => ?_⟩
      obtain ⟨x, hx, z, hz, rfl⟩ := hfst y hy
      have hl : k < x.2.length := by
        rw [h.rl x hx]
        rw [seenT_len] at hlt
        exact hlt
      have ht' : (x.2 ++ [z.1])[k]? = some t := ht
      rw [List.getElem?_append_left hl] at ht'
      exact h3 x hx t ht'
    · have hk2 : k = pre.length := by
        have := (List.getElem?_eq_some_iff.mp hk).1
        rw [List.length_append, seenT_len] at this
        rw [seenT_len] at hlt
        have e1 : [(loT s (endZ s s pre) m, hiT s (endA s 0 pre) m)].length = 1 := rfl
        omega
      subst hk2
      rw [List.getElem?_append_right (by rw [seenT_len]; exact Nat.le_refl _), seenT_len, Nat.sub_self] at hk
      have hk' : ((loT s (endZ s s pre) m, hiT s (endA s 0 pre) m) : Pr) = (lo, hi) := Option.some.inj hk
      obtain ⟨rfl, rfl⟩ := Prod.mk.inj hk'
      have klo := some_lo (m := m) hs h.sp
      have khi := some_hi (m := m) hs h.sp
      have get : ∀ t, t ∈ ((F.map (·.1)).flatMap fun o => tto s o m).map (·.1) → ∃ y ∈ F.flatMap (extR s m), y.2[pre.length]? = some t := fun t ht => by
        obtain ⟨o, ho, ht⟩ := some_mem.mp ht
        obtain ⟨x, hx, rfl⟩ := List.mem_map.mp ho
        obtain ⟨z, hz, rfl⟩ := List.mem_map.mp ht
        refine ⟨(z.2, x.2 ++ [z.1]), List.mem_flatMap.mpr ⟨x, hx, List.mem_map.mpr ⟨z, hz, rfl⟩⟩, ?_⟩
        show (x.2 ++ [z.1])[pre.length]? = _
        rw [← h.rl x hx, List.getElem?_append_right (Nat.le_refl _), Nat.sub_self]
        rfl
      refine ⟨get _ klo.1, get _ khi.1, fun y hy t ht => ?_⟩
      obtain ⟨x, hx, z, hz, rfl⟩ := hfst y hy
      have ht' : (x.2 ++ [z.1])[pre.length]? = some t := ht
      rw [← h.rl x hx, List.getElem?_append_right (Nat.le_refl _), Nat.sub_self] at ht'
      have e1 : z.1 = t := Option.some.inj ht'
      subst e1
      have hm : z.1 ∈ ((F.map (·.1)).flatMap fun o => tto s o m).map (·.1) := some_mem.mpr ⟨x.1, List.mem_map_of_mem hx, List.mem_map_of_mem hz⟩
      exact ⟨klo.2 _ hm, khi.2 _ hm⟩
theorem rowsT_0 {s : Int} (hs : 0 ≤ s) : RW s [] (rowsT s []) := by
  have e : rowsT s [] = (rgI s).map fun o => (o, []) := rfl
  have e2 : (rowsT s []).map (·.1) = rgI s := by
    rw [e, List.map_map]
    exact List.map_id _
  refine ⟨?_, fun x hx => ?_, ?_, fun k lo hi hk => ?_⟩
  · rw [e, List.length_map]
    exact rgI_len hs
  · rw [e] at hx
    obtain ⟨o, _, rfl⟩ := List.mem_map.mp hx
    rfl
  · rw [e2]
    exact ⟨(mem_rgI hs).mpr ⟨Int.le_refl _, hs⟩, (mem_rgI hs).mpr ⟨hs, Int.le_refl _⟩, fun x hx => (mem_rgI hs).mp hx, Int.le_refl _, Int.le_refl _⟩
  · simp [seenT] at hk
theorem rowsT_ok {s : Int} (hs : 0 ≤ s) (l : List Int) : RW s l (rowsT s l) := by
  have go : ∀ (post pre : List Int), RW s pre (rowsT s pre) → RW s (pre ++ post) (rowsT s (pre ++ post)) := by
    intro post
    induction post with
    | nil =>
      intro pre h
      rw [List.append_nil]
      exact h
    | cons m post ih =>
      intro pre h
      have := ih (pre ++ [m]) (by rw [rowsT_snoc]; exact h.step hs)
      rw [List.append_assoc] at this
      exact this
  exact go l [] (rowsT_0 hs)
theorem rows_1 {s m : Int} (hs : 0 ≤ s ∧ s ≤ 20) {lo : List Rw} {x : Rw} (hlo : lo.length ≤ 100000) (hx : x.2.length ≤ 100) (d1 s2 : PyData) (s7 : Sl) :
    ∃ s7', b__law_rows_1 [.sh (.int s), .sh d1, .sh s2, .sh (.int m), .ow (lo.map rowD), .sh (.int x.1), .sh (.list (x.2.map PyData.int)), s7] = some (.nx [.sh (.int s), .sh d1, .sh s2, .sh (.int m), .ow ((lo ++ extR s m x).map rowD), .sh (.int x.1), .sh (.list (x.2.map PyData.int)), s7']) := by
  have hl1 : (x.2.map PyData.int).length + 1 ≤ 16777216 := by rw [List.length_map]; omega
  have hl2 : (lo.map rowD).length < 16777216 := by rw [List.length_map]; omega
  have app : ∀ t : Int, (x.2 ++ [t]).map PyData.int = x.2.map PyData.int ++ [.int t] := fun t => by
    rw [List.map_append]
    rfl
  unfold extR tto
  by_cases h1 : m = 0
  · subst h1
    have a1 := rg1_I hs
    have hr := rgI_len hs.1
    have hrl : (rgI s).length ≤ 16000000 := by omega
    have c1 : lcL [7] (gVar 7) fYes (fTup (fCons (fVar 7) (fCons (fBin hAdd (fVar 6) (fFz (fLst (fCons (fBin hSub (fVar 7) (fVar 5)) fNil)))) fNil))) ((rgI s).map PyData.int) [.sh (.int s), .sh d1, .sh s2, .sh (.int 0), .sh (.list (lo.map rowD)), .sh (.int x.1), .sh (.list (x.2.map PyData.int)), .un] = some ((rgI s).map fun t => rowD (t, x.2 ++ [t - x.1]), [.sh (.int s), .sh d1, .sh s2, .sh (.int 0), .sh (.list (lo.map rowD)), .sh (.int x.1), .sh (.list (x.2.map PyData.int)), .un]) :=
      lcL_map PyData.int (fun t => rowD (t, x.2 ++ [t - x.1])) (rgI s) fun t ht => ⟨[.sh (.int s), .sh d1, .sh s2, .sh (.int 0), .sh (.list (lo.map rowD)), .sh (.int x.1), .sh (.list (x.2.map PyData.int)), .sh (.int t)], [.sh (.int s), .sh d1, .sh s2, .sh (.int 0), .sh (.list (lo.map rowD)), .sh (.int x.1), .sh (.list (x.2.map PyData.int)), .sh (.int t)], rfl, by
        unfold rowD
        rw [app]
        generalize x.2.map PyData.int = X at *
        simp [hl1], rfl⟩
    have e9 : (lo ++ ((if (0 : Int) < 0 then [((0 : Int) + s - x.1, s)] else if (0 : Int) < 0 then [((0 : Int) - x.1, (0 : Int))] else (rgI s).map fun t => (t - x.1, t)) : List Pr).map fun y => ((y.2, x.2 ++ [y.1]) : Rw)).map rowD = lo.map rowD ++ (rgI s).map fun t => rowD (t, x.2 ++ [t - x.1]) := by
      rw [if_neg (by decide), if_neg (by decide), List.map_append, List.map_map, List.map_map]
      rfl
    refine ⟨.un, ?_⟩
    rw [e9]
    generalize hR : (rgI s).map (fun t => rowD (t, x.2 ++ [t - x.1])) = R at *
    have hRl : R.length = (rgI s).length := by rw [← hR, List.length_map]
    have hl3 : (lo.map rowD).length + R.length ≤ 16777216 := by rw [List.length_map]; omega
    generalize lo.map rowD = LO at *
    generalize x.2.map PyData.int = X at *
    simp [b__law_rows_1, a1, c1, hrl, hRl, hl3]
    omega
  · by_cases h2 : 0 < m
    · refine ⟨s7, ?_⟩
      rw [if_pos h2]
      have e9 : (lo ++ [((m + s - x.1, s) : Pr)].map fun y => ((y.2, x.2 ++ [y.1]) : Rw)).map rowD = lo.map rowD ++ [.tuple [.int s, .list (x.2.map PyData.int ++ [.int (m + s - x.1)])]] := by
        rw [List.map_append, ← app]
        rfl
      rw [e9]
      generalize lo.map rowD = LO at *
      generalize x.2.map PyData.int = X at *
      simp [b__law_rows_1, h1, h2, hl1, hl2]
    · refine ⟨s7, ?_⟩
      rw [if_neg h2, if_pos (by omega)]
      have e9 : (lo ++ [((m - x.1, 0) : Pr)].map fun y => ((y.2, x.2 ++ [y.1]) : Rw)).map rowD = lo.map rowD ++ [.tuple [.int 0, .list (x.2.map PyData.int ++ [.int (m - x.1)])]] := by
        rw [List.map_append, ← app]
        rfl
      rw [e9]
      generalize lo.map rowD = LO at *
      generalize x.2.map PyData.int = X at *
      simp [b__law_rows_1, h1, h2, hl1, hl2]

theorem manyT_bd {s : Int} (hs : 0 ≤ s ∧ s ≤ 3) : ∀ (l : List Int) (T : Int), 0 ≤ T → 0 ≤ manyT s T l ∧ manyT s T l ≤ 4 ^ l.length * T
  | [], T, h => by
    show 0 ≤ T ∧ T ≤ 4 ^ 0 * T
    omega
  | m :: l, T, h => by
    have h4 : (0 : Int) ≤ 4 ^ l.length := Int.pow_nonneg (by decide)
    have e4 : (4 : Int) ^ (m :: l).length = 4 ^ l.length * 4 := Int.pow_succ ..
    show 0 ≤ manyT s (if m = 0 then T * (s + 1) else T) l ∧ manyT s (if m = 0 then T * (s + 1) else T) l ≤ 4 ^ (m :: l).length * T
    rw [e4, Int.mul_assoc]
    split
    · have h1 : 0 ≤ T * (s + 1) := Int.mul_nonneg h (by omega)
      obtain ⟨i1, i2⟩ := manyT_bd hs l (T * (s + 1)) h1
      refine ⟨i1, Int.le_trans i2 (Int.mul_le_mul_of_nonneg_left ?_ h4)⟩
      rw [Int.mul_comm 4 T]
      exact Int.mul_le_mul_of_nonneg_left (by omega) h
    · obtain ⟨i1, i2⟩ := manyT_bd hs l T h
      exact ⟨i1, Int.le_trans i2 (Int.mul_le_mul_of_nonneg_left (by omega) h4)⟩
theorem rows_small {s : Int} (hs : 0 ≤ s ∧ s ≤ 3) {l : List Int} (hl : l.length ≤ 4) : (rowsT s l).length ≤ 1024 := by
  have h1 := (rowsT_ok hs.1 l).len
  have h2 := (manyT_bd hs l (s + 1) (by omega)).2
  have h3 : (4 : Int) ^ l.length ≤ 256 := by
    match l.length, hl with
    | 0, _ => decide
    | 1, _ => decide
    | 2, _ => decide
    | 3, _ => decide
    | 4, _ => decide
  have h4 : (4 : Int) ^ l.length * (s + 1) ≤ 256 * (s + 1) := Int.mul_le_mul_of_nonneg_right h3 (by omega)
  omega
theorem ext_flat_len {s m : Int} (hs : 0 ≤ s ∧ s ≤ 20) : ∀ F : List Rw, (F.flatMap (extR s m)).length ≤ F.length * 21
  | [] => Nat.le_refl _
  | x :: F => by
    rw [List.flatMap_cons, List.length_append, List.length_cons]
    have h1 := ext_flat_len (m := m) hs F
    have h2 := tto_len (off := x.1) (m := m) hs
    have h3 : (extR s m x).length = (tto s x.1 m).length := List.length_map ..
    omega
theorem rows_2 {s m : Int} (hs : 0 ≤ s ∧ s ≤ 20) {F : List Rw} (hF : F.length ≤ 1024) (hr : ∀ x ∈ F, x.2.length ≤ 100) (d1 : PyData) (s2 s4 s5 s6 s7 : Sl) (h2 : s2 = .ow (F.map rowD) ∨ s2 = .sh (.list (F.map rowD))) :
    ∃ s5' s6' s7', b__law_rows_2 [.sh (.int s), .sh d1, s2, .sh (.int m), s4, s5, s6, s7] = some (.nx [.sh (.int s), .sh d1, .ow ((F.flatMap (extR s m)).map rowD), .sh (.int m), .un, s5', s6', s7']) := by
  have key := forL_run (g := gTu 2 (gCo (gVar 5) (gCo (gVar 6) gNo))) (F := b__law_rows_1) (toD := rowD) (xs := F)
    (ρ := [.sh (.int s), .sh d1, .sh (.list (F.map rowD)), .sh (.int m), .ow [], s5, s6, s7])
    (Inv := fun pre ρ => ∃ y5 y6 y7, ρ = [.sh (.int s), .sh d1, .sh (.list (F.map rowD)), .sh (.int m), .ow ((pre.flatMap (extR s m)).map rowD), y5, y6, y7])
    ⟨_, _, _, rfl⟩ (fun pre x post ρ1 e ⟨y5, y6, y7, hρ⟩ => by
      subst hρ
      have hpl : pre.length ≤ 1024 := by
        have := congrArg List.length e
        rw [List.length_append, List.length_cons] at this
        omega
      have hlo : (pre.flatMap (extR s m)).length ≤ 100000 := by
        have := ext_flat_len (m := m) hs pre
        omega
      have hx : x.2.length ≤ 100 := hr x (by rw [e]; simp)
      obtain ⟨z7, e2⟩ := rows_1 (m := m) hs hlo hx d1 (.list (F.map rowD)) y7
      refine ⟨[.sh (.int s), .sh d1, .sh (.list (F.map rowD)), .sh (.int m), .ow ((pre.flatMap (extR s m)).map rowD), .sh (.int x.1), .sh (.list (x.2.map PyData.int)), y7], by simp [rowD], _, e2, _, _, _, by rw [List.flatMap_append, List.flatMap_cons, List.flatMap_nil, List.append_nil]⟩)
  obtain ⟨ρ', e1, y5, y6, y7, rfl⟩ := key
  refine ⟨y5, y6, y7, ?_⟩
  generalize (F.flatMap (extR s m)).map rowD = R at *
  generalize F.map rowD = F0 at *
  rcases h2 with rfl | rfl <;> simp [b__law_rows_2, e1]
theorem sp_law_rows {s : Int} {l : List Int} (hs : 0 ≤ s ∧ s ≤ 3) (hl : l.length ≤ 4) : F__law_rows [.int s, .list (l.map PyData.int)] = some (.sh (.list ((rowsT s l).map rowD))) := by
  have hs' : 0 ≤ s ∧ s ≤ 20 := by omega
  have a1 := rg1_I hs'
  have hr := rgI_len hs.1
  have hrl : (rgI s).length ≤ 16000000 := by omega
  have c1 : lcL [5] (gVar 5) fYes (fTup (fCons (fVar 5) (fCons (fFz (fLst fNil)) fNil))) ((rgI s).map PyData.int) [.sh (.int s), .sh (.list (l.map PyData.int)), .un, .un, .un, .un, .un, .un] = some ((rowsT s []).map rowD, [.sh (.int s), .sh (.list (l.map PyData.int)), .un, .un, .un, .un, .un, .un]) := by
    have e : rowsT s [] = (rgI s).map fun o => (o, []) := rfl
    rw [e, List.map_map]
    exact lcL_map PyData.int _ (rgI s) fun t ht => ⟨[.sh (.int s), .sh (.list (l.map PyData.int)), .un, .un, .un, .sh (.int t), .un, .un], [.sh (.int s), .sh (.list (l.map PyData.int)), .un, .un, .un, .sh (.int t), .un, .un], rfl, by simp [rowD], rfl⟩
  have key := forL_run (g := gVar 3) (F := b__law_rows_2) (toD := PyData.int) (xs := l)
    (ρ := [.sh (.int s), .sh (.list (l.map PyData.int)), .ow ((rowsT s []).map rowD), .un, .un, .un, .un, .un])
    (Inv := fun pre ρ => ∃ y3 y4 y5 y6 y7, ρ = [.sh (.int s), .sh (.list (l.map PyData.int)), .ow ((rowsT s pre).map rowD), y3, y4, y5, y6, y7])
    ⟨_, _, _, _, _, rfl⟩ (fun pre m post ρ1 e ⟨y3, y4, y5, y6, y7, hρ⟩ => by
      subst hρ
      have hpl : pre.length ≤ 4 := by
        have := congrArg List.length e
        rw [List.length_append, List.length_cons] at this
        omega
      obtain ⟨z5, z6, z7, e2⟩ := rows_2 (m := m) hs' (rows_small hs hpl) (fun x hx => by rw [(rowsT_ok hs.1 pre).rl x hx]; omega) (.list (l.map PyData.int)) _ y4 y5 y6 y7 (.inl rfl)
      refine ⟨[.sh (.int s), .sh (.list (l.map PyData.int)), .ow ((rowsT s pre).map rowD), .sh (.int m), y4, y5, y6, y7], rfl, _, e2, _, _, _, _, _, by rw [rowsT_snoc]⟩)
  obtain ⟨ρ', e1, y3, y4, y5, y6, y7, rfl⟩ := key
  generalize (rowsT s []).map rowD = R0 at *
  generalize (rowsT s l).map rowD = R1 at *
  simp [F__law_rows, runF, b__law_rows, startE, a1, c1, hrl, e1]

/-- the middle of three -/
theorem srt3 (k g o t s : Int) (hk : k = g + o + t) (h0 : 0 ≤ o) (h1 : o ≤ s) : ∃ x y, srtI [k - s, g, k] = [x, g + (tSo s o t).1, y] := by
  have ha : (tSo s o t).1 = if o + t > s then o + t - s else if o + t < 0 then o + t else 0 := by
    unfold tSo
    split
    · rfl
    · split <;> rfl
  rw [ha]
  show ∃ x y, insI (k - s) (insI g (insI k [])) = _
  show ∃ x y, insI (k - s) (if g ≤ k then [g, k] else [k, g]) = _
  by_cases c1 : g ≤ k
  · rw [if_pos c1]
    by_cases c2 : k - s ≤ g
    · refine ⟨k - s, k, ?_⟩
      show (if k - s ≤ g then [k - s, g, k] else _) = _
      rw [if_pos c2, if_neg (by omega), if_neg (by omega)]
      congr 2
      omega
    · refine ⟨g, k, ?_⟩
      show (if k - s ≤ g then [k - s, g, k] else g :: (if k - s ≤ k then [k - s, k] else [k, k - s])) = _
      rw [if_neg c2, if_pos (show k - s ≤ k by omega), if_pos (by omega)]
      congr 2
      omega
  · rw [if_neg c1]
    refine ⟨k - s, g, ?_⟩
    show (if k - s ≤ k then [k - s, k, g] else _) = _
    rw [if_pos (show k - s ≤ k by omega), if_neg (by omega), if_pos (by omega)]
    congr 2
    omega

/-! draws -/
theorem sp_law_well (c t : Int) : F__law_well [.int c, .int t] = some (.ow [.int (if 1000000000000000000 ≤ c then c - 1000000000000000000 else 0), .int (c % pBig), .int t]) := by
  have e1 : hPow (.int 10) (.int 18) = some (.int 1000000000000000000) := by rfl
  have e2 : hMod (.int c) (.int 2305843009213693951) = some (.int (c % 2305843009213693951)) := hMod_p (by decide)
  by_cases h : 1000000000000000000 ≤ c
  · simp [F__law_well, runF, b__law_well, startE, e1, e2, h]
  · simp [F__law_well, runF, b__law_well, startE, e1, e2, h]
theorem well_bag (c t : Int) : ∃ x y, F__law_well [.int c, .int t] = some (.ow [.int x, .int y, .int t]) ∧ 0 ≤ x ∧ 0 ≤ y ∧ y < pBig := by
  refine ⟨_, _, sp_law_well c t, ?_, Int.emod_nonneg _ (by decide), Int.emod_lt_of_pos _ (by decide)⟩
  split <;> omega
def bagL (b : List Int) : List PyData := b.map PyData.int
theorem BagOk.mono {n m : Int} {b : List Int} (h : BagOk n b) (e : n ≤ m) : BagOk m b := by
  obtain ⟨x, y, t, h1, h2, h3, h4, h5, h6⟩ := h
  exact ⟨x, y, t, h1, h2, h3, h4, h5, by omega⟩
theorem sp_take {n : Int} {b : List Int} {m : Int} (hb : BagOk n b) (hn : n < 1000000000) (h0 : 0 < m) (h1 : m < 18446744073709551616) :
    ∃ r b', F__law_take (bagL b) [.int m] = some (.sh (.int r), bagL b') ∧ 0 ≤ r ∧ r < m ∧ BagOk (n + 1) b' := by
  obtain ⟨x, y, t, rfl, hx, hy, hy2, ht, ht2⟩ := hb
  by_cases h : 0 < x
  · refine ⟨x % m, [x / m, y, t], ?_, Int.emod_nonneg _ (by omega), Int.emod_lt_of_pos _ h0, _, _, _, rfl, Int.ediv_nonneg hx (by omega), hy, hy2, ht, by omega⟩
    have e1 : hMod (.int x) (.int m) = some (.int (x % m)) := hMod_p h0
    have e2 : hDiv (.int x) (.int m) = some (.int (x / m)) := hDiv_p ⟨h0, h1⟩
    simp [F__law_take, runB, b__law_take, startB, startE, bagL, h, e1, e2, ixN]
  · have q : ∃ z : Int, F__law_take (bagL [x, y, t]) [.int m] = some (.sh (.int (z % m)), bagL [x, y, t + 1]) := by
      have a1 : hMul (.int 1000003) (.int (t + 1)) = some (.int (1000003 * (t + 1))) := hMul_l (by decide)
      have a2 : hMod (.int (y + 1000003 * (t + 1))) (.int 2305843009213693951) = some (.int ((y + 1000003 * (t + 1)) % 2305843009213693951)) := hMod_p (by decide)
      have b1 : 0 ≤ (y + 1000003 * (t + 1)) % 2305843009213693951 := Int.emod_nonneg _ (by decide)
      have b2 : (y + 1000003 * (t + 1)) % 2305843009213693951 < 2305843009213693951 := Int.emod_lt_of_pos _ (by decide)
      generalize (y + 1000003 * (t + 1)) % 2305843009213693951 = u at a2 b1 b2
      have a3 : hMul (.int u) (.int u) = some (.int (u * u)) := hMul_l (by omega)
      have a4 : hPow (.int (t + 1)) (.int 2) = some (.int ((t + 1) ^ 2)) := if_pos ⟨by decide, by decide, by omega, by omega⟩
      have a5 : hMul (.int 7919) (.int ((t + 1) ^ 2)) = some (.int (7919 * (t + 1) ^ 2)) := hMul_l (by decide)
      have a6 : hMod (.int (u * u + 7919 * (t + 1) ^ 2 + 5)) (.int 2305843009213693951) = some (.int ((u * u + 7919 * (t + 1) ^ 2 + 5) % 2305843009213693951)) := hMod_p (by decide)
      have b3 : 0 ≤ (u * u + 7919 * (t + 1) ^ 2 + 5) % 2305843009213693951 := Int.emod_nonneg _ (by decide)
      have b4 : (u * u + 7919 * (t + 1) ^ 2 + 5) % 2305843009213693951 < 2305843009213693951 := Int.emod_lt_of_pos _ (by decide)
      generalize (u * u + 7919 * (t + 1) ^ 2 + 5) % 2305843009213693951 = v at a6 b3 b4
      have a7 : hPow (.int v) (.int 3) = some (.int (v ^ 3)) := if_pos ⟨by decide, by decide, by omega, by omega⟩
      have a8 : hMod (.int (v ^ 3)) (.int 2305843009213693951) = some (.int (v ^ 3 % 2305843009213693951)) := hMod_p (by decide)
      have a9 : hDiv (.int (v ^ 3 % 2305843009213693951)) (.int 13) = some (.int (v ^ 3 % 2305843009213693951 / 13)) := hDiv_p (by decide)
      have a10 : hMod (.int (v ^ 3 % 2305843009213693951 / 13)) (.int m) = some (.int (v ^ 3 % 2305843009213693951 / 13 % m)) := hMod_p h0
      refine ⟨v ^ 3 % 2305843009213693951 / 13, ?_⟩
      simp [F__law_take, runB, b__law_take, startB, startE, bagL, h, ixN, a1, a2, a3, a4, a5, a6, a7, a8, a9, a10]
    obtain ⟨z, q⟩ := q
    exact ⟨z % m, [x, y, t + 1], q, Int.emod_nonneg _ (by omega), Int.emod_lt_of_pos _ h0, _, _, _, rfl, hx, hy, hy2, by omega, by omega⟩

theorem pick4 {x y z w r : Int} (h0 : 0 ≤ r) (h1 : r < 4) : ∃ u, atI [PyData.int x, .int y, .int z, .int w] r = some (.int u) ∧ (u = x ∨ u = y ∨ u = z ∨ u = w) := by
  have h2 : r = 0 ∨ r = 1 ∨ r = 2 ∨ r = 3 := by omega
  rcases h2 with rfl | rfl | rfl | rfl
  · exact ⟨x, by simp, .inl rfl⟩
  · exact ⟨y, by simp, .inr (.inl rfl)⟩
  · exact ⟨z, by simp, .inr (.inr (.inl rfl))⟩
  · exact ⟨w, atI_nat (j := 3) rfl, .inr (.inr (.inr rfl))⟩
/-- what was made lies within -/
structure MD (s off : Int) (mv md : List Int) : Prop where
  len : md.length = mv.length
  lo : endA s 0 mv ≤ off
  hi : off ≤ endZ s s mv
  bd : 0 ≤ off ∧ off ≤ s
  inn : ∀ (k : Nat) (lo hi t : Int), (seenT s 0 s mv)[k]? = some (lo, hi) → md[k]? = some t → lo ≤ t ∧ t ≤ hi
theorem MD.step {s off t : Int} {mv md : List Int} (h : MD s off mv md) : MD s (tSo s off t).2 (mv ++ [(tSo s off t).1]) (md ++ [t]) := by
  obtain ⟨h0, h1⟩ := h.bd
  have hin := tSo_in (t := t) h0 h1
  have hsum := tSo_sum s off t
  have hup : 0 < (tSo s off t).1 → (tSo s off t).2 = s := fun q => by
    unfold tSo at q ⊢
    by_cases c1 : off + t > s
    · rw [if_pos c1]
    · rw [if_neg c1] at q ⊢
      by_cases c2 : off + t < 0
      · rw [if_pos c2] at q ⊢
        simp only at q
        omega
      · rw [if_neg c2] at q
        simp only at q
        omega
  have hdn : (tSo s off t).1 < 0 → (tSo s off t).2 = 0 := fun q => by
    unfold tSo at q ⊢
    by_cases c1 : off + t > s
    · rw [if_pos c1] at q
      simp only at q
      omega
    · rw [if_neg c1] at q ⊢
      by_cases c2 : off + t < 0
      · rw [if_pos c2]
      · rw [if_neg c2] at q
        simp only at q
        omega
  have hl := h.lo
  have hh := h.hi
  generalize (tSo s off t).1 = m at *
  generalize (tSo s off t).2 = o2 at *
  refine ⟨by rw [List.length_append, List.length_append, h.len]; rfl, ?_, ?_, hin, fun k lo hi u hk hu => ?_⟩
  · rw [endA_snoc]
    unfold offA
    split
    · have := hup (by assumption)
      omega
    · omega
  · rw [endZ_snoc]
    unfold offZ
    split
    · have := hdn (by assumption)
      omega
    · omega
  · rw [seenT_snoc] at hk
    by_cases hlt : k < (seenT s 0 s mv).length
    · rw [List.getElem?_append_left hlt] at hk
      rw [seenT_len] at hlt
      rw [List.getElem?_append_left (by rw [h.len]; exact hlt)] at hu
      exact h.inn k lo hi u hk hu
    · have hk2 : k = mv.length := by
        have := (List.getElem?_eq_some_iff.mp hk).1
        rw [List.length_append, seenT_len] at this
        rw [seenT_len] at hlt
        have e1 : [(loT s (endZ s s mv) m, hiT s (endA s 0 mv) m)].length = 1 := rfl
        omega
      subst hk2
      rw [List.getElem?_append_right (by rw [seenT_len]; exact Nat.le_refl _), seenT_len, Nat.sub_self] at hk
      rw [← h.len, List.getElem?_append_right (Nat.le_refl _), Nat.sub_self] at hu
      have hk' : ((loT s (endZ s s mv) m, hiT s (endA s 0 mv) m) : Pr) = (lo, hi) := Option.some.inj hk
      obtain ⟨rfl, rfl⟩ := Prod.mk.inj hk'
      have e1 : t = u := Option.some.inj hu
      subst e1
      unfold loT hiT
      by_cases c1 : 0 < m
      · rw [if_pos c1, if_pos c1]
        have := hup c1
        omega
      · rw [if_neg c1, if_neg c1]
        by_cases c2 : m < 0
        · rw [if_pos c2]
          have := hdn c2
          omega
        · rw [if_neg c2]
          omega
/-- all lie within: none is told -/
theorem none_out {s : Int} {mv md : List Int} (hin : ∀ (k : Nat) (lo hi t : Int), (seenT s 0 s mv)[k]? = some (lo, hi) → md[k]? = some t → lo ≤ t ∧ t ≤ hi) (hlen : md.length = mv.length) (a : List Sl) (ha : a.length = 7) (b c d e w' x y z u : Sl) :
    ∀ (post : List Int) (pre : List Int) (w : Sl), md = pre ++ post → (w = .ow ((seenT s 0 s mv).map prD) ∨ w = .sh (.list ((seenT s 0 s mv).map prD))) →
    ∃ w2, (w2 = .ow ((seenT s 0 s mv).map prD) ∨ w2 = .sh (.list ((seenT s 0 s mv).map prD))) ∧ lcL [7, 15] (gTu 2 (gCo (gVar 7) (gCo (gVar 15) (gNo)))) (fNotT (fB (fChain hLe hLe (fBin hIx (fBin hIx (fVar 11) (fVar 7)) (fC (.int 0))) (fVar 15) (fBin hIx (fBin hIx (fVar 11) (fVar 7)) (fC (.int 1)))))) (fVar 7) (enumD pre.length (post.map PyData.int)) (a ++ [.un, b, c, d, w, e, x, y, .un, z, u]) = some ([], a ++ [.un, b, c, d, w2, e, x, y, .un, z, u]) := by
  match a, ha with
  | [a0, a1, a2, a3, a4, a5, a6], _ =>
  intro post
  induction post with
  | nil => exact fun pre w _ hw => ⟨w, hw, rfl⟩
  | cons t post ih =>
    intro pre w e0 hw
    have hk : pre.length < (seenT s 0 s mv).length := by
      rw [seenT_len, ← hlen, e0, List.length_append, List.length_cons]
      omega
    obtain ⟨⟨lo, hi⟩, hlh⟩ : ∃ y, (seenT s 0 s mv)[pre.length]? = some y := ⟨_, List.getElem?_eq_getElem hk⟩
    have ht : md[pre.length]? = some t := by
      rw [e0, List.getElem?_append_right (Nat.le_refl _), Nat.sub_self]
      rfl
    obtain ⟨q1, q2⟩ := hin _ lo hi t hlh ht
    have at1 : atI ((seenT s 0 s mv).map prD) (pre.length : Int) = some (prD (lo, hi)) := atI_nat (by rw [List.getElem?_map, hlh]; rfl)
    obtain ⟨w2, hw2, e1⟩ := ih (pre ++ [t]) (.sh (.list ((seenT s 0 s mv).map prD))) (by rw [e0, List.append_assoc]; rfl) (.inr rfl)
    refine ⟨w2, hw2, ?_⟩
    have e2 : (pre ++ [t]).length = pre.length + 1 := by rw [List.length_append]; rfl
    rw [e2] at e1
    have ix0 : hIx (prD (lo, hi)) (.int 0) = some (.int lo) := rfl
    have ix1 : hIx (prD (lo, hi)) (.int 1) = some (.int hi) := rfl
    show lcL _ _ _ _ (.tuple [.int (pre.length : Int), .int t] :: enumD (pre.length + 1) (post.map PyData.int)) _ = _
    generalize enumD (pre.length + 1) (post.map PyData.int) = PO at *
    generalize (seenT s 0 s mv).map prD = SD at *
    simp only [List.cons_append, List.nil_append] at e1 ⊢
    rcases hw with rfl | rfl <;> simp [at1, ix0, ix1, q1, q2, e1]
theorem little_loop {v : V} {n s r : Int} {b : List Int} (hb : BagOk n b) (hn : n < 900000000) (hr : 0 ≤ r ∧ r < 5) :
    ∃ (l b' : List Int) (x4 : Sl), forL (gVar 4) b_law_1 ((List.range r.toNat).map fun (k : Nat) => PyData.int (k : Int)) [.ad v, .ow (bagL b), .sh (.int s), .ow [], .un, .un, .un, .un, .un, .un, .un, .un, .un, .un, .un, .un, .un, .un] =
      some (.nx [.ad v, .ow (bagL b'), .sh (.int s), .ow (l.map PyData.int), x4, .un, .un, .un, .un, .un, .un, .un, .un, .un, .un, .un, .un, .un]) ∧ l.length ≤ 4 ∧ (∀ x ∈ l, -10 ≤ x ∧ x ≤ 10) ∧ BagOk (n + 20) b' := by
  have key := forL_run (g := gVar 4) (F := b_law_1) (toD := fun (k : Nat) => PyData.int (k : Int)) (xs := List.range r.toNat)
    (ρ := [.ad v, .ow (bagL b), .sh (.int s), .ow [], .un, .un, .un, .un, .un, .un, .un, .un, .un, .un, .un, .un, .un, .un])
    (Inv := fun pre ρ => ∃ (l b' : List Int) (x4 : Sl), ρ = [.ad v, .ow (bagL b'), .sh (.int s), .ow (l.map PyData.int), x4, .un, .un, .un, .un, .un, .un, .un, .un, .un, .un, .un, .un, .un] ∧ l.length = pre.length ∧ (∀ x ∈ l, -10 ≤ x ∧ x ≤ 10) ∧ BagOk (n + 3 * pre.length) b')
    ⟨[], b, _, rfl, rfl, fun x hx => (by cases hx), hb.mono (by simp)⟩ (fun pre k post ρ1 e ⟨l, b', x4, hρ, hl, hx, kb⟩ => by
      subst hρ
      have hlen : pre.length < 4 ∨ pre.length = 4 ∧ False ∨ pre.length < 5 := by
        have h2 : (List.range r.toNat).length = (pre ++ k :: post).length := by rw [e]
        rw [List.length_range, List.length_append, List.length_cons] at h2
        omega
      have hlen2 : pre.length < 5 := by omega
      obtain ⟨r1, b1, e1, g1, g2, k1⟩ := sp_take (m := 5) kb (by omega) (by decide) (by decide)
      obtain ⟨r2, b2, e2, g3, g4, k2⟩ := sp_take (m := 5) k1 (by omega) (by decide) (by decide)
      obtain ⟨r3, b3, e3, g5, g6, k3⟩ := sp_take (m := 4) k2 (by omega) (by decide) (by decide)
      obtain ⟨u, e4, hu⟩ := pick4 (x := 0) (y := 0) (z := 1 + r1) (w := -1 - r2) g5 g6
      have hl2 : l.length < 16777216 := by omega
      refine ⟨_, rfl, [.ad v, .ow (bagL b3), .sh (.int s), .ow (l.map PyData.int ++ [.int u]), .sh (.int (k : Int)), .un, .un, .un, .un, .un, .un, .un, .un, .un, .un, .un, .un, .un], ?_, l ++ [u], b3, .sh (.int (k : Int)), by rw [List.map_append]; rfl, by rw [List.length_append, List.length_append, hl]; rfl, fun x hx' => ?_, k3.mono ?_⟩
      · simp [b_law_1, e1, e2, e3, e4, hl2]
      · rcases List.mem_append.mp hx' with h4 | h4
        · exact hx x h4
        · rw [List.mem_singleton] at h4
          subst h4
          rcases hu with rfl | rfl | rfl | rfl <;> omega
      · rw [List.length_append]
        show n + 3 * (pre.length : Int) + 1 + 1 + 1 ≤ n + 3 * ((pre.length + 1 : Nat) : Int)
        omega)
  obtain ⟨ρ', e2, l, b', x4, rfl, hl, hx, kb⟩ := key
  rw [List.length_range] at hl kb
  exact ⟨l, b', x4, e2, by omega, hx, kb.mono (by omega)⟩
theorem ends_loop {v : V} {s : Int} {b : List Int} {l : List Int} {x4 : Sl} (hs : 0 ≤ s) (hl : l.length ≤ 100) (hrl : (rowsT s l).length ≤ 16000000) :
    ∃ x7 x13 : Sl, ∃ x8 x17 : Sl, forL (gVar 7) b_law_2 ((List.range l.length).map fun (k : Nat) => PyData.int (k : Int)) [.ad v, .ow (bagL b), .sh (.int s), .sh (.list (l.map PyData.int)), x4, .sh (.list ((rowsT s l).map rowD)), .ow [], .un, .un, .un, .un, .un, .un, .un, .un, .un, .un, .un] =
      some (.nx [.ad v, .ow (bagL b), .sh (.int s), .sh (.list (l.map PyData.int)), x4, .sh (.list ((rowsT s l).map rowD)), .ow ((seenT s 0 s l).map prD), x7, x8, .un, .un, .un, .un, x13, .un, .un, .un, x17]) := by
  have rw0 := rowsT_ok hs l
  generalize hT : rowsT s l = T at *
  have key := forL_run (g := gVar 7) (F := b_law_2) (toD := fun (k : Nat) => PyData.int (k : Int)) (xs := List.range l.length)
    (ρ := [.ad v, .ow (bagL b), .sh (.int s), .sh (.list (l.map PyData.int)), x4, .sh (.list (T.map rowD)), .ow [], .un, .un, .un, .un, .un, .un, .un, .un, .un, .un, .un])
    (Inv := fun pre ρ => ∃ x7 x8 x13 x17 : Sl, ρ = [.ad v, .ow (bagL b), .sh (.int s), .sh (.list (l.map PyData.int)), x4, .sh (.list (T.map rowD)), .ow (((seenT s 0 s l).take pre.length).map prD), x7, x8, .un, .un, .un, .un, x13, .un, .un, .un, x17])
    ⟨_, _, _, _, rfl⟩ (fun pre k post ρ1 e ⟨x7, x8, x13, x17, hρ⟩ => by
      subst hρ
      have hk : k = pre.length ∧ pre.length < l.length := by
        have h1 : (List.range l.length)[pre.length]? = some k := by
          rw [e, List.getElem?_append_right (Nat.le_refl _), Nat.sub_self]
          rfl
        have h2 : pre.length < l.length := by
          have h3 := congrArg List.length e
          rw [List.length_range, List.length_append, List.length_cons] at h3
          omega
        rw [List.getElem?_range h2] at h1
        exact ⟨(Option.some.inj h1).symm, h2⟩
      obtain ⟨hk, hkl⟩ := hk
      have hkS : k < (seenT s 0 s l).length := by rw [seenT_len]; omega
      obtain ⟨⟨lo, hi⟩, hlh⟩ : ∃ y, (seenT s 0 s l)[k]? = some y := ⟨_, List.getElem?_eq_getElem hkS⟩
      obtain ⟨⟨y1, m1, g1⟩, ⟨y2, m2, g2⟩, hbd⟩ := rw0.col k lo hi hlh
      have hget : ∀ x ∈ T, x.2[k]? = some (x.2.getD k 0) := fun x hx => by
        have : k < x.2.length := by rw [rw0.rl x hx]; omega
        rw [List.getD_eq_getElem?_getD, List.getElem?_eq_getElem this]
        rfl
      have hcol : ∀ t, t ∈ T.map (fun x => x.2.getD k 0) ↔ ∃ x ∈ T, x.2[k]? = some t := fun t => by
        rw [List.mem_map]
        constructor
        · rintro ⟨x, hx, rfl⟩
          exact ⟨x, hx, hget x hx⟩
        · rintro ⟨x, hx, h⟩
          refine ⟨x, hx, ?_⟩
          rw [hget x hx] at h
          exact Option.some.inj h
      have f1 := srt_first ((hcol lo).mpr ⟨y1, m1, g1⟩) fun t ht => by
        obtain ⟨x, hx, h⟩ := (hcol t).mp ht
        exact (hbd x hx t h).1
      have f2 := srt_last ((hcol hi).mpr ⟨y2, m2, g2⟩) fun t ht => by
        obtain ⟨x, hx, h⟩ := (hcol t).mp ht
        exact (hbd x hx t h).2
      have i1 := intsO_map (T.map fun x => x.2.getD k 0)
      have c1 : ∀ (E : List PyData), lcL [8, 17] (gTu 2 (gCo (gVar 8) (gCo (gVar 17) gNo))) fYes (fBin hIx (fVar 17) (fVar 7)) (T.map rowD) [.ad v, .ow (bagL b), .sh (.int s), .sh (.list (l.map PyData.int)), x4, .sh (.list (T.map rowD)), .ow E, .sh (.int (k : Int)), .un, .un, .un, .un, .un, x13, .un, .un, .un, .un] = some ((T.map fun x => x.2.getD k 0).map PyData.int, [.ad v, .ow (bagL b), .sh (.int s), .sh (.list (l.map PyData.int)), x4, .sh (.list (T.map rowD)), .ow E, .sh (.int (k : Int)), .un, .un, .un, .un, .un, x13, .un, .un, .un, .un]) := fun E => by
        rw [List.map_map]
        exact lcL_map rowD _ T fun x hx => by
          have at1 : atI (x.2.map PyData.int) (k : Int) = some (.int (x.2.getD k 0)) := atI_nat (by rw [List.getElem?_map, hget x hx]; rfl)
          refine ⟨[.ad v, .ow (bagL b), .sh (.int s), .sh (.list (l.map PyData.int)), x4, .sh (.list (T.map rowD)), .ow E, .sh (.int (k : Int)), .sh (.int x.1), .un, .un, .un, .un, x13, .un, .un, .un, .sh (.list (x.2.map PyData.int))], [.ad v, .ow (bagL b), .sh (.int s), .sh (.list (l.map PyData.int)), x4, .sh (.list (T.map rowD)), .ow E, .sh (.int (k : Int)), .sh (.int x.1), .un, .un, .un, .un, x13, .un, .un, .un, .sh (.list (x.2.map PyData.int))], by simp [rowD], ?_, rfl⟩
          generalize x.2.map PyData.int = X at *
          show _ = some (PyData.int (x.2.getD k 0), _)
          generalize x.2.getD k 0 = q at *
          simp [at1]
      have e5 : ((seenT s 0 s l).take (pre ++ [k]).length).map prD = ((seenT s 0 s l).take pre.length).map prD ++ [.tuple [.int lo, .int hi]] := by
        have e6 : (pre ++ [k]).length = k + 1 := by rw [List.length_append, hk]; rfl
        rw [e6, ← hk, List.take_add_one, hlh, List.map_append]
        rfl
      have hE : (((seenT s 0 s l).take pre.length).map prD).length < 16777216 := by
        rw [List.length_map, List.length_take, seenT_len]
        omega
      rw [e5]
      generalize ((seenT s 0 s l).take pre.length).map prD = E at *
      have c2 := c1 E
      generalize hA : T.map (fun x => x.2.getD k 0) = A at *
      generalize hC : (srtI A).map PyData.int = C at *
      have hl16 : (T.map rowD).length ≤ 16000000 := by rw [List.length_map]; exact hrl
      generalize T.map rowD = TD at *
      refine ⟨[.ad v, .ow (bagL b), .sh (.int s), .sh (.list (l.map PyData.int)), x4, .sh (.list TD), .ow E, .sh (.int (k : Int)), x8, .un, .un, .un, .un, x13, .un, .un, .un, x17], rfl, [.ad v, .ow (bagL b), .sh (.int s), .sh (.list (l.map PyData.int)), x4, .sh (.list TD), .ow (E ++ [.tuple [.int lo, .int hi]]), .sh (.int (k : Int)), .un, .un, .un, .un, .un, .sh (.list C), .un, .un, .un, .un], ?_, .sh (.int (k : Int)), .un, .sh (.list C), .un, rfl⟩
      simp [b_law_2, c2, hl16, i1, hC, f1, f2, hE])
  obtain ⟨ρ', e2, x7, x8, x13, x17, rfl⟩ := key
  rw [List.length_range, List.take_of_length_le (by rw [seenT_len]; exact Nat.le_refl _)] at e2
  exact ⟨x7, x13, x8, x17, e2⟩
theorem made_loop {v : V} {n s off r : Int} {b : List Int} (hb : BagOk n b) (hn : n < 900000000) (hs : 0 ≤ s ∧ s ≤ 20) (ho : 0 ≤ off ∧ off ≤ s) (hr : 0 ≤ r ∧ r < 39) (a3 a4 a5 a6 a7 a13 a17 : Sl) :
    ∃ (mv md b' : List Int) (off' : Int) (x4 x9 x10 x14 x15 x16 : Sl), forL (gVar 4) b_law_3 ((List.range r.toNat).map fun (k : Nat) => PyData.int (k : Int)) [.ad v, .ow (bagL b), .sh (.int s), a3, a4, a5, a6, a7, .sh (.int off), .ow [], .ow [], .un, .un, a13, .un, .un, .un, a17] =
      some (.nx [.ad v, .ow (bagL b'), .sh (.int s), a3, x4, a5, a6, a7, .sh (.int off'), x9, x10, .un, .un, a13, x14, x15, x16, a17]) ∧ (x9 = .ow (mv.map PyData.int) ∨ x9 = .sh (.list (mv.map PyData.int))) ∧ (x10 = .ow (md.map PyData.int) ∨ x10 = .sh (.list (md.map PyData.int))) ∧
      mv.length ≤ 38 ∧ (∀ x ∈ mv, -900000000000 ≤ x ∧ x ≤ 900000000000) ∧ MD s off' mv md ∧ BagOk (n + 100) b' := by
  have key := forL_run (g := gVar 4) (F := b_law_3) (toD := fun (k : Nat) => PyData.int (k : Int)) (xs := List.range r.toNat)
    (ρ := [.ad v, .ow (bagL b), .sh (.int s), a3, a4, a5, a6, a7, .sh (.int off), .ow [], .ow [], .un, .un, a13, .un, .un, .un, a17])
    (Inv := fun pre ρ => ∃ (mv md b' : List Int) (off' : Int) (x4 x9 x10 x14 x15 x16 : Sl), ρ = [.ad v, .ow (bagL b'), .sh (.int s), a3, x4, a5, a6, a7, .sh (.int off'), x9, x10, .un, .un, a13, x14, x15, x16, a17] ∧ (x9 = .ow (mv.map PyData.int) ∨ x9 = .sh (.list (mv.map PyData.int))) ∧ (x10 = .ow (md.map PyData.int) ∨ x10 = .sh (.list (md.map PyData.int))) ∧
      mv.length = pre.length ∧ (∀ x ∈ mv, -900000000000 ≤ x ∧ x ≤ 900000000000) ∧ MD s off' mv md ∧ BagOk (n + 2 * pre.length) b')
    ⟨[], [], b, off, _, _, _, _, _, _, rfl, .inl rfl, .inl rfl, rfl, fun x hx => (by cases hx), ⟨rfl, ho.1, ho.2, ho, fun k lo hi t h => (by simp [seenT] at h)⟩, hb.mono (by simp)⟩ (fun pre k post ρ1 e ⟨mv, md, b', off', x4, x9, x10, x14, x15, x16, hρ, h9, h10, hl, hx, hmd, kb⟩ => by
      subst hρ
      have hlen : pre.length < 38 := by
        have h2 : (List.range r.toNat).length = (pre ++ k :: post).length := by rw [e]
        rw [List.length_range, List.length_append, List.length_cons] at h2
        omega
      obtain ⟨r1, b1, e1, g1, g2, k1⟩ := sp_take (m := 3) kb (by omega) (by decide) (by decide)
      obtain ⟨wd, e2, hw⟩ := pick3 (x := 100000000000) (y := 25) (z := 4) g1 g2
      have q9 : hPow (.int 10) (.int 11) = some (.int 100000000000) := by rfl
      obtain ⟨r2, b2, e3, g3, g4, k2⟩ := sp_take (m := 2 * wd + 1) k1 (by omega) (by omega) (by omega)
      have q8 : hMul (.int 2) (.int wd) = some (.int (2 * wd)) := hMul_l (by decide)
      obtain ⟨h0, h1⟩ := hmd.bd
      obtain ⟨x, y, e4⟩ := srt3 (off' + (r2 - wd)) 0 off' (r2 - wd) s (by omega) h0 h1
      rw [Int.zero_add] at e4
      have e5 : off' + (r2 - wd) - (tSo s off' (r2 - wd)).1 = (tSo s off' (r2 - wd)).2 := by
        have := tSo_sum s off' (r2 - wd)
        omega
      have hbd := tSo_bd (t := r2 - wd) h0 h1
      have hl1 : mv.length + 1 ≤ 16777216 := by omega
      have hl2 : md.length + 1 ≤ 16777216 := by rw [hmd.len]; omega
      have m1 : ∀ (z : List Int) (t : Int), (z ++ [t]).map PyData.int = z.map PyData.int ++ [.int t] := fun z t => by
        rw [List.map_append]
        rfl
      refine ⟨_, rfl, [.ad v, .ow (bagL b2), .sh (.int s), a3, .sh (.int (k : Int)), a5, a6, a7, .sh (.int (tSo s off' (r2 - wd)).2), .sh (.list ((mv ++ [(tSo s off' (r2 - wd)).1]).map PyData.int)), .sh (.list ((md ++ [r2 - wd]).map PyData.int)), .un, .un, a13, .sh (.int wd), .sh (.int (r2 - wd)), .sh (.int (tSo s off' (r2 - wd)).1), a17], ?_, mv ++ [(tSo s off' (r2 - wd)).1], md ++ [r2 - wd], b2, _, _, _, _, _, _, _, rfl, .inr rfl, .inr rfl, by rw [List.length_append, List.length_append, hl]; rfl, fun z hz => ?_, hmd.step, k2.mono ?_⟩
      · rw [m1, m1]
        have hm1 : (mv.map PyData.int).length + 1 ≤ 16777216 := by rw [List.length_map]; exact hl1
        have hm2 : (md.map PyData.int).length + 1 ≤ 16777216 := by rw [List.length_map]; exact hl2
        generalize mv.map PyData.int = MV at *
        generalize md.map PyData.int = MDD at *
        rcases h9 with rfl | rfl <;> rcases h10 with rfl | rfl <;> simp [b_law_3, q9, q8, e1, e2, e3, e4, e5, hm1, hm2]
      · rcases List.mem_append.mp hz with h4 | h4
        · exact hx z h4
        · rw [List.mem_singleton] at h4
          subst h4
          have : 0 ≤ r2 - wd ∨ r2 - wd ≤ 0 := by omega
          rcases this with q | q
          · have := hbd.1 q
            omega
          · have := hbd.2 q
            omega
      · rw [List.length_append]
        show n + 2 * (pre.length : Int) + 1 + 1 ≤ n + 2 * ((pre.length + 1 : Nat) : Int)
        omega)
  obtain ⟨ρ', e2, mv, md, b', off', x4, x9, x10, x14, x15, x16, rfl, h9, h10, hl, hx, hmd, kb⟩ := key
  rw [List.length_range] at hl kb
  exact ⟨mv, md, b', off', x4, x9, x10, x14, x15, x16, e2, h9, h10, by omega, hx, hmd, kb.mono (by omega)⟩

/-! equal, and of the same kinds all through -/
theorem isiT_none {Ts : List String} : hIsiT Ts .none = (kitAnyB "NoneType" Ts).map PyData.bool := rfl
theorem isiT_bool {Ts : List String} {b : Bool} : hIsiT Ts (.bool b) = (kitAnyB "bool" Ts).map PyData.bool := rfl
theorem isiT_int {Ts : List String} {b : Int} : hIsiT Ts (.int b) = (kitAnyB "int" Ts).map PyData.bool := rfl
theorem kT_n : kitAnyB "NoneType" ["bool", "list", "tuple"] = some false := by decide +kernel
theorem kT_b : kitAnyB "bool" ["bool", "list", "tuple"] = some true := by decide +kernel
theorem kT_i : kitAnyB "int" ["bool", "list", "tuple"] = some false := by decide +kernel
theorem zipD_map (xs : List PyData) : zipD xs xs = xs.map fun x => PyData.tuple [x, x] := by
  unfold zipD
  induction xs with
  | nil => rfl
  | cons x xs ih => simp [List.zipWith, ih]
theorem hEq_bool (b : Bool) : hEq (.bool b) (.bool b) = some (.bool true) := by cases b <;> rfl
theorem sp_same : ∀ (n : Nat) (d : PyData), goodD n d = true → F__law_same (n + 1) [d, d] = some (.sh (.bool true)) := by
  intro n
  induction n with
  | zero =>
    intro d h
    cases d with
    | none => simp [F__law_same, runF, b__law_same, startE, isi_list (d := .none) rfl, isi_tup (d := .none) rfl, isi_int (d := .none) rfl, isi_str (d := .none) rfl, kList, kTup, kInt, kStr, isiT_none, kT_n, hIsN, isN]
    | bool b => simp [F__law_same, runF, b__law_same, startE, isi_list (d := .bool b) rfl, isi_tup (d := .bool b) rfl, kList, kTup, isiT_bool, kT_b, hEq_bool]
    | int b => simp [F__law_same, runF, b__law_same, startE, isi_list (d := .int b) rfl, isi_tup (d := .int b) rfl, kList, kTup, isiT_int, kT_i]
    | str x => simp [goodD] at h
    | list xs => simp [goodD] at h
    | tuple xs => simp [goodD] at h
    | dict xs => simp [goodD] at h
  | succ n sp_same =>
    intro d h
    cases d with
    | none => simp [F__law_same, runF, b__law_same, startE, isi_list (d := .none) rfl, isi_tup (d := .none) rfl, isi_int (d := .none) rfl, isi_str (d := .none) rfl, kList, kTup, kInt, kStr, isiT_none, kT_n, hIsN, isN]
    | bool b => simp [F__law_same, runF, b__law_same, startE, isi_list (d := .bool b) rfl, isi_tup (d := .bool b) rfl, kList, kTup, isiT_bool, kT_b, hEq_bool]
    | int b => simp [F__law_same, runF, b__law_same, startE, isi_list (d := .int b) rfl, isi_tup (d := .int b) rfl, kList, kTup, isiT_int, kT_i]
    | str x => simp [goodD] at h
    | dict xs => simp [goodD] at h
    | list xs =>
      simp only [goodD, Bool.and_eq_true, decide_eq_true_eq, List.all_eq_true] at h
      have e1 : lcL [2, 3] (gTu 2 (gCo (gVar 2) (gCo (gVar 3) gNo))) fYes (fFz (fCallR 2 (F__law_same (n + 1)) (fCons (fVar 2) (fCons (fVar 3) fNil)))) (xs.map fun x => PyData.tuple [x, x]) [.sh (.list xs), .sh (.list xs), .un, .un] = some (xs.map fun _ => PyData.bool true, [.sh (.list xs), .sh (.list xs), .un, .un]) :=
        lcL_map (fun x => PyData.tuple [x, x]) (fun _ => PyData.bool true) xs fun x hx => ⟨_, [.sh (.list xs), .sh (.list xs), .sh x, .sh x], rfl, by simp [sp_same x (h.2 x hx)], rfl⟩
      have e2 : xs.length ≤ 16000000 := by omega
      unfold F__law_same
      simp [runF, b__law_same, startE, zipD_map, e1, e2, boolsO_all]
    | tuple xs =>
      simp only [goodD, Bool.and_eq_true, decide_eq_true_eq, List.all_eq_true] at h
      have e1 : lcL [2, 3] (gTu 2 (gCo (gVar 2) (gCo (gVar 3) gNo))) fYes (fFz (fCallR 2 (F__law_same (n + 1)) (fCons (fVar 2) (fCons (fVar 3) fNil)))) (xs.map fun x => PyData.tuple [x, x]) [.sh (.tuple xs), .sh (.tuple xs), .un, .un] = some (xs.map fun _ => PyData.bool true, [.sh (.tuple xs), .sh (.tuple xs), .un, .un]) :=
        lcL_map (fun x => PyData.tuple [x, x]) (fun _ => PyData.bool true) xs fun x hx => ⟨_, [.sh (.tuple xs), .sh (.tuple xs), .sh x, .sh x], rfl, by simp [sp_same x (h.2 x hx)], rfl⟩
      have e2 : xs.length ≤ 16000000 := by omega
      unfold F__law_same
      simp [runF, b__law_same, startE, zipD_map, isi_list (d := .tuple xs) rfl, kList, e1, e2, boolsO_all]

theorem goodD_mono : ∀ {n : Nat} {d : PyData}, goodD n d = true → goodD (n + 1) d = true := by
  intro n
  induction n with
  | zero => intro d h; cases d <;> first | rfl | (simp [goodD] at h)
  | succ n ih =>
    intro d h
    cases d with
    | none => rfl
    | bool b => rfl
    | int b => rfl
    | str b => simp [goodD] at h
    | dict b => simp [goodD] at h
    | list xs =>
      rw [goodD] at h ⊢
      simp only [Bool.and_eq_true, decide_eq_true_eq, List.all_eq_true] at h ⊢
      exact ⟨h.1, fun x hx => ih (h.2 x hx)⟩
    | tuple xs =>
      rw [goodD] at h ⊢
      simp only [Bool.and_eq_true, decide_eq_true_eq, List.all_eq_true] at h ⊢
      exact ⟨h.1, fun x hx => ih (h.2 x hx)⟩
theorem goodD_le {n m : Nat} {d : PyData} (h : goodD n d = true) (hm : n ≤ m) : goodD m d = true := by
  induction hm with
  | refl => exact h
  | step _ ih => exact goodD_mono ih

theorem sp_same8 {d : PyData} (n : Nat) (h : goodD n d = true) (hn : n ≤ 7 := by decide) : F__law_same 8 [d, d] = some (.sh (.bool true)) := sp_same 7 d (goodD_le h hn)

theorem goodD_pr (x : Pr) : goodD 1 (prD x) = true := by simp [prD, goodD]
theorem goodD_prs (l : List Pr) (h : l.length ≤ 1000000) : goodD 2 (.list (l.map prD)) = true := by
  simp only [goodD, Bool.and_eq_true, decide_eq_true_eq, List.all_eq_true, List.length_map]
  refine ⟨h, fun x hx => ?_⟩
  obtain ⟨s, _, rfl⟩ := List.mem_map.mp hx
  exact goodD_pr s
theorem hNotIn_mem {x : Pr} {l : List Pr} (hl : l.length ≤ 1000000) (h : x ∈ l) : hNotIn (prD x) (.list (l.map prD)) = some (.bool false) := by
  have h1 := goodD_shaped 1 (goodD_pr x)
  have h2 := goodD_shaped 2 (goodD_prs l hl)
  have h3 : ((l.map prD).any fun z => PyData.eqv z (prD x)) = true := List.any_eq_true.mpr ⟨prD x, List.mem_map_of_mem h, SeqAt.eqv_refl _ (goodD_lay 1 _ (goodD_pr x)).1⟩
  have h4 : hNotIn (prD x) (.list (l.map prD)) = some (.bool (!((l.map prD).any fun z => PyData.eqv z (prD x)))) := if_pos ⟨h1, h2⟩
  rw [h4, h3]
  rfl
theorem goodD_bools (l : List Bool) (h : l.length ≤ 1000000) : goodD 1 (.list (l.map PyData.bool)) = true := by
  simp only [goodD, Bool.and_eq_true, decide_eq_true_eq, List.all_eq_true, List.length_map]
  refine ⟨h, fun x hx => ?_⟩
  obtain ⟨s, _, rfl⟩ := List.mem_map.mp hx
  rfl
theorem hIn_bool (b : Bool) (l : List Bool) (h : l.length ≤ 1000000) : hIn (.bool b) (.list (l.map PyData.bool)) = some (.bool (decide (b ∈ l))) := by
  have h2 := goodD_shaped 1 (goodD_bools l h)
  have h1 : SeqAt.shaped (.bool b) = true := goodD_shaped 0 rfl
  have h4 : hIn (.bool b) (.list (l.map PyData.bool)) = some (.bool ((l.map PyData.bool).any fun z => PyData.eqv z (.bool b))) := if_pos ⟨h1, h2⟩
  rw [h4]
  congr 2
  induction l with
  | nil => rfl
  | cons a l ih =>
    have h' : l.length ≤ 1000000 := by rw [List.length_cons] at h; omega
    have ih := ih h' (goodD_shaped 1 (goodD_bools l h')) (if_pos ⟨h1, goodD_shaped 1 (goodD_bools l h')⟩)
    rw [List.map_cons, List.any_cons, ih]
    cases a <;> cases b <;> simp [PyData.eqv]

theorem main_k09 (v : V) (b : List Int) (hb : BagOk 100000 b) : ∃ ρ', b_main [.ad v, .ow (bagL b), .un, .un, .un, .un, .un, .un, .un, .un, .un, .un, .un, .un, .un, .un, .un, .un] = some (.nx ρ') ∧ ρ'.length = 18 ∧ ρ'[0]? = some (.ad v) := by
  obtain ⟨s, b1, e1, g1, g2, k1⟩ := sp_take (m := 4) hb (by decide) (by decide) (by decide)
  obtain ⟨r1, b2, e2, g3, g4, k2⟩ := sp_take (m := 5) k1 (by decide) (by decide) (by decide)
  obtain ⟨l, b3, x4, e3, hl, hlx, k3⟩ := little_loop (v := v) (s := s) k2 (by decide) ⟨g3, g4⟩
  have hs : 0 ≤ s ∧ s ≤ 3 := by omega
  have hs2 : 0 ≤ s ∧ s ≤ 20 := by omega
  have e4 := sp_law_rows hs hl
  have hrs := rows_small hs hl
  have rw0 := rowsT_ok hs.1 l
  obtain ⟨x7, x13, x8, x17, e5⟩ := ends_loop (v := v) (b := b3) (x4 := x4) (l := l) hs.1 (by omega) (by omega)
  have okl : MvsOk l := ⟨by omega, fun x hx => by have := hlx x hx; omega⟩
  have e6 := sp_turns_seen hs2 okl
  have e7 := sp_how_many hs2 okl
  have s1 := sp_same8 2 (goodD_prs (seenT s 0 s l) (by rw [seenT_len]; omega))
  have s2 := sp_same8 0 (d := .int (manyT s (s + 1) l)) rfl
  have a1 := rg1_eq (j := r1) (by omega)
  obtain ⟨t, b4, f1, h1, h2, k4⟩ := sp_take (m := 21) k3 (by decide) (by decide) (by decide)
  obtain ⟨o, b5, f2, h3, h4, k5⟩ := sp_take (m := t + 1) k4 (by decide) (by omega) (by omega)
  obtain ⟨r2, b6, f3, h5, h6, k6⟩ := sp_take (m := 39) k5 (by decide) (by decide) (by decide)
  have ht : 0 ≤ t ∧ t ≤ 20 := by omega
  have a2 := rg1_eq (j := r2) (by omega)
  have hrlen : ((rowsT s l).map rowD).length = (rowsT s l).length := List.length_map ..
  have hlenr : (((rowsT s l).map rowD).length : Int) = manyT s (s + 1) l := by rw [hrlen]; exact rw0.len
  obtain ⟨mv, md, b7, o', y4, y9, y10, y14, y15, y16, f4, q9, q10, hml, hmx, hmd, k7⟩ := made_loop (v := v) (n := 100000 + 1 + 1 + 20 + 1 + 1 + 1) (s := t) (off := o) (r := r2) k6 (by decide) ht (by omega) ⟨h5, h6⟩ (.sh (.list (l.map PyData.int))) x4 (.sh (.list ((rowsT s l).map rowD))) (.sh (.list ((seenT s 0 s l).map prD))) x7 x13 x17
  have okm : MvsOk mv := ⟨by omega, fun x hx => by have := hmx x hx; omega⟩
  have okz : ∀ z : Int, -10 ≤ z ∧ z ≤ 10 → MvsOk (mv ++ [z]) := fun z hz => ⟨by rw [List.length_append]; show mv.length + 1 ≤ 40; omega, fun x hx => by
    rcases List.mem_append.mp hx with q | q
    · have := hmx x q
      omega
    · rw [List.mem_singleton] at q
      omega⟩
  have t1 := sp_turns_seen ht okm
  have t2 := sp_how_many ht okm
  have t3 := sp_law_many (l := mv) ht
  have t4 := sp_how_many ht (okz 0 (by decide))
  have t5 := sp_how_many ht (okz 7 (by decide))
  have t6 := sp_how_many ht (okz (-7) (by decide))
  have mz : ∀ z : Int, (mv ++ [z]).map PyData.int = mv.map PyData.int ++ [.int z] := fun z => by
    rw [List.map_append]
    rfl
  rw [mz, manyT_app] at t4 t5 t6
  have n4 : manyT t (manyT t (t + 1) mv) [0] = manyT t (t + 1) mv * (t + 1) := rfl
  have n5 : manyT t (manyT t (t + 1) mv) [7] = manyT t (t + 1) mv := rfl
  have n6 : manyT t (manyT t (t + 1) mv) [-7] = manyT t (t + 1) mv := rfl
  rw [n4] at t4
  rw [n5] at t5
  rw [n6] at t6
  have s3 := sp_same8 0 (d := .int (manyT t (t + 1) mv)) rfl
  have m1 : hMul (.int (manyT t (t + 1) mv)) (.int (t + 1)) = some (.int (manyT t (t + 1) mv * (t + 1))) := hMul_r (by omega)
  have hmvl : (mv.map PyData.int).length + 1 ≤ 16777216 := by rw [List.length_map]; omega
  have out := fun (a : List Sl) (ha : a.length = 7) (b c d e w' x y z u w : Sl) hw => none_out hmd.inn hmd.len a ha b c d e w' x y z u md [] w rfl hw
  have hmdl : (enumD 0 (md.map PyData.int)).length ≤ 16000000 := by rw [enumD_length, List.length_map, hmd.len]; omega
  unfold b_main
  rw [fSeq_nx (ρ1 := [.ad v, .ow (bagL b1), .sh (.int s), .un, .un, .un, .un, .un, .un, .un, .un, .un, .un, .un, .un, .un, .un, .un]) (by simp [e1])]
  rw [fSeq_nx (ρ1 := [.ad v, .ow (bagL b1), .sh (.int s), .ow [], .un, .un, .un, .un, .un, .un, .un, .un, .un, .un, .un, .un, .un, .un]) (by simp)]
  rw [fSeq_nx (ρ1 := [.ad v, .ow (bagL b3), .sh (.int s), .ow (l.map PyData.int), x4, .un, .un, .un, .un, .un, .un, .un, .un, .un, .un, .un, .un, .un]) (by
    generalize l.map PyData.int = L at *
    simp [e2, a1, e3])]
  generalize hRW : (rowsT s l).map rowD = RW0 at *
  generalize hSE : (seenT s 0 s l).map prD = SE at *
  have i0 : (l.map PyData.int).length = l.length := List.length_map ..
  have r5 := fRg1_nat (k := fCons (fFz (fCall hLen (fCons (fVar 3) fNil))) fNil) (ρ := [.ad v, .ow (bagL b3), .sh (.int s), .sh (.list (l.map PyData.int)), x4, .sh (.list RW0), .ow [], .un, .un, .un, .un, .un, .un, .un, .un, .un, .un, .un])
    (ρ' := [.ad v, .ow (bagL b3), .sh (.int s), .sh (.list (l.map PyData.int)), x4, .sh (.list RW0), .ow [], .un, .un, .un, .un, .un, .un, .un, .un, .un, .un, .un]) (j := ((l.map PyData.int).length : Int)) (n := l.length) (by simp) (by rw [i0]) (by omega)
  generalize l.map PyData.int = L at *
  rw [fSeq_nx (ρ1 := [.ad v, .ow (bagL b3), .sh (.int s), .sh (.list L), x4, .sh (.list RW0), .un, .un, .un, .un, .un, .un, .un, .un, .un, .un, .un, .un]) (by simp [e4])]
  rw [fSeq_nx (ρ1 := [.ad v, .ow (bagL b3), .sh (.int s), .sh (.list L), x4, .sh (.list RW0), .ow [], .un, .un, .un, .un, .un, .un, .un, .un, .un, .un, .un]) (by simp)]
  rw [fSeq_nx (ρ1 := [.ad v, .ow (bagL b3), .sh (.int s), .sh (.list L), x4, .sh (.list RW0), .ow SE, x7, x8, .un, .un, .un, .un, x13, .un, .un, .un, x17]) (by
    rw [fFor_eq, r5, Option.bind_some]
    exact e5)]
  rw [fSeq_nx (ρ1 := [.ad v, .ow (bagL b3), .sh (.int s), .sh (.list L), x4, .sh (.list RW0), .sh (.list SE), x7, x8, .un, .un, .un, .un, x13, .un, .un, .un, x17]) (by
    simp [e6, e7, s1, hlenr, s2])]
  rw [fSeq_nx (ρ1 := [.ad v, .ow (bagL b4), .sh (.int t), .sh (.list L), x4, .sh (.list RW0), .sh (.list SE), x7, x8, .un, .un, .un, .un, x13, .un, .un, .un, x17]) (by simp [f1])]
  rw [fSeq_nx (ρ1 := [.ad v, .ow (bagL b5), .sh (.int t), .sh (.list L), x4, .sh (.list RW0), .sh (.list SE), x7, .sh (.int o), .ow [], .ow [], .un, .un, x13, .un, .un, .un, x17]) (by simp [f2])]
  rw [fSeq_nx (ρ1 := [.ad v, .ow (bagL b7), .sh (.int t), .sh (.list L), y4, .sh (.list RW0), .sh (.list SE), x7, .sh (.int o'), y9, y10, .un, .un, x13, y14, y15, y16, x17]) (by simp [f3, a2, f4])]
  generalize hSM : (seenT t 0 t mv).map prD = SM at *
  generalize hM : manyT t (t + 1) mv = M at *
  rw [fSeq_nx (ρ1 := [.ad v, .ow (bagL b7), .sh (.int t), .sh (.list L), y4, .sh (.list RW0), .sh (.list SE), x7, .sh (.int o'), .sh (.list (mv.map PyData.int)), y10, .ow SM, .un, x13, y14, y15, y16, x17]) (by
    generalize mv.map PyData.int = MV at *
    rcases q9 with rfl | rfl <;> simp [t1])]
  obtain ⟨w2, hw2, c2⟩ := out [.ad v, .ow (bagL b7), .sh (.int t), .sh (.list L), y4, .sh (.list RW0), .sh (.list SE)] rfl (.sh (.int o')) (.sh (.list (mv.map PyData.int))) (.sh (.list (md.map PyData.int))) .un .un x13 y14 y16 x17 (.ow SM) (.inl rfl)
  simp only [List.cons_append, List.nil_append, List.length_nil] at c2
  have en : ∀ d : List PyData, en1 [.list d] = some (enumD 0 d) := fun d => rfl
  have nn : hNe (.list []) (.list []) = some (.bool false) := rfl
  rw [fSeq_nx (ρ1 := [.ad v, .ow (bagL b7), .sh (.int t), .sh (.list L), y4, .sh (.list RW0), .sh (.list SE), .un, .sh (.int o'), .sh (.list (mv.map PyData.int)), .sh (.list (md.map PyData.int)), w2, .un, x13, y14, .un, y16, x17]) (by
    generalize mv.map PyData.int = MV at *
    generalize md.map PyData.int = MDD at *
    rcases q10 with rfl | rfl <;> simp [en, hmdl, c2, nn])]
  generalize mv.map PyData.int = MV at *
  rw [fSeq_nx (ρ1 := [.ad v, .ow (bagL b7), .sh (.int t), .sh (.list L), y4, .sh (.list RW0), .sh (.list SE), .un, .sh (.int o'), .sh (.list MV), .sh (.list (md.map PyData.int)), w2, .sh (.int M), x13, y14, .un, y16, x17]) (by simp [t2])]
  rw [fSeq_nx (ρ1 := [.ad v, .ow (bagL b7), .sh (.int t), .sh (.list L), y4, .sh (.list RW0), .sh (.list SE), .un, .sh (.int o'), .sh (.list MV), .sh (.list (md.map PyData.int)), w2, .sh (.int M), x13, y14, .un, y16, x17]) (by simp [t3, s3, hmvl, t4, m1])]
  refine ⟨[.ad v, .ow (bagL b7), .sh (.int t), .sh (.list L), y4, .sh (.list RW0), .sh (.list SE), .un, .sh (.int o'), .sh (.list MV), .sh (.list (md.map PyData.int)), w2, .sh (.int M), x13, y14, .un, y16, x17], ?_, rfl, rfl⟩
  simp [hmvl, t5, t6]
theorem law_ok : LawOk 18 6 1 fNext b_main := lawOk_bare (n := 17) (by decide) (by decide) (fun v => ⟨_, rfl, rfl, rfl⟩) main_k09

def top (i : Nat) : Stmt := PySem.Challenge.pw_slackpen_k09_whole_turns_that_can_have_b.main.body.getD i (.Pass ⟨0, 0, 0, 0⟩)
abbrev s_is_whole : Stmt := top 7
abbrev s_is_within : Stmt := top 8
abbrev s_look_at_slack : Stmt := top 11
abbrev s_are_moved : Stmt := top 12
abbrev s_turns_to : Stmt := top 13
abbrev s_look_at_moved : Stmt := top 14
abbrev s_turns_seen : Stmt := top 15
abbrev s_how_many : Stmt := top 16
abbrev s__law_well : Stmt := top 18
abbrev s__law_take : Stmt := top 19
abbrev s__law_bags : Stmt := top 20
abbrev s__law_same : Stmt := top 21
abbrev s__law_rows : Stmt := top 22
abbrev s__law_many : Stmt := top 23
abbrev s_law : Stmt := top 24
/-- what the top has left -/
structure Tx (K : PySem.W.Frag) (mg : Str → Option Value) : Prop where
  n_isinstance : mg "isinstance" = none
  n_len : mg "len" = none
  n_all : mg "all" = none
  n_range : mg "range" = none
  n_zip : mg "zip" = none
  n_tuple : mg "tuple" = none
  n_list : mg "list" = none
  n_sorted : mg "sorted" = none
  n_enumerate : mg "enumerate" = none
  n_sum : mg "sum" = none
  n_min : mg "min" = none
  n_max : mg "max" = none
  n_bool : mg "bool" = none
  n_int : mg "int" = none
  n_str : mg "str" = none
  c_MOST_SLACK : ∃ t, mg "MOST_SLACK" = some (.int 20 t)
  c_MOST_TURN : ∃ t, mg "MOST_TURN" = some (.int 1000000000000 t)
  c_MOST_SEEN : ∃ t, mg "MOST_SEEN" = some (.int 40 t)
  d_is_whole : DefAt K mg "is_whole" s_is_whole
  d_is_within : DefAt K mg "is_within" s_is_within
  d_look_at_slack : DefAt K mg "look_at_slack" s_look_at_slack
  d_are_moved : DefAt K mg "are_moved" s_are_moved
  d_turns_to : DefAt K mg "turns_to" s_turns_to
  d_look_at_moved : DefAt K mg "look_at_moved" s_look_at_moved
  d_turns_seen : DefAt K mg "turns_seen" s_turns_seen
  d_how_many : DefAt K mg "how_many" s_how_many
  d__law_well : DefAt K mg "_law_well" s__law_well
  d__law_take : DefAt K mg "_law_take" s__law_take
  d__law_bags : DefAt K mg "_law_bags" s__law_bags
  d__law_same : DefAt K mg "_law_same" s__law_same
  d__law_rows : DefAt K mg "_law_rows" s__law_rows
  d__law_many : DefAt K mg "_law_many" s__law_many
  d_law : DefAt K mg "law" s_law

section
variable {P : Program} {w : World} {K : PySem.W.Frag} {mg : Str → Option Value} {base : Heap}
abbrev N_is_whole : List Str := ["thing"]
theorem sc_is_whole : FnScope N_is_whole ["thing"] (defScope s_is_whole) := ⟨rfl, rfl, rfl, by decide +kernel, rfl, by decide +kernel, by decide +kernel⟩
theorem ok_is_whole (M : Tx K mg) : CalR P w K mg base 1 "is_whole" 1 F_is_whole := by
  exact calR_of (N := N_is_whole) (k := 0) (F := b_is_whole) M.d_is_whole sc_is_whole (by decide) (fun _ _ _ _ _ _ us hl => match us, hl with | [_], _ => rfl) (fun f cdv A outer s H E hr =>
      dss_one (ds_ret (dr_sh (de_and (de_isi M.n_isinstance (de_var 0) M.n_int PyProof.Rows.boot_int) (de_one (de_not (de_isi M.n_isinstance (de_var 0) M.n_bool PyProof.Rows.boot_bool)))))))

abbrev N_is_within : List Str := ["thing", "low", "high"]
theorem sc_is_within : FnScope N_is_within ["thing", "low", "high"] (defScope s_is_within) := ⟨rfl, rfl, rfl, by decide +kernel, rfl, by decide +kernel, by decide +kernel⟩
theorem ok_is_within (M : Tx K mg) : CalR P w K mg base 2 "is_within" 3 F_is_within := by
  have C_is_whole := ok_is_whole (P := P) (w := w) (base := base) M
  exact calR_of (N := N_is_within) (k := 1) (F := b_is_within) M.d_is_within sc_is_within (by decide) (fun _ _ _ _ _ _ us hl => match us, hl with | [_, _, _], _ => rfl) (fun f cdv A outer s H E hr =>
      dss_one (ds_ret (dr_sh (de_and (de_fz (dr_fn C_is_whole hr (da_cons (de_var 0) (da_nil)))) (de_one (de_leLe hr (de_var 1) (de_var 0) (de_var 2)))))))

abbrev N_look_at_slack : List Str := ["slack"]
theorem sc_look_at_slack : FnScope N_look_at_slack ["slack"] (defScope s_look_at_slack) := ⟨rfl, rfl, rfl, by decide +kernel, rfl, by decide +kernel, by decide +kernel⟩
theorem ok_look_at_slack (M : Tx K mg) : CalR P w K mg base 3 "look_at_slack" 1 F_look_at_slack := by
  have C_is_within := ok_is_within (P := P) (w := w) (base := base) M
  exact calR_of (N := N_look_at_slack) (k := 2) (F := b_look_at_slack) M.d_look_at_slack sc_look_at_slack (by decide) (fun _ _ _ _ _ _ us hl => match us, hl with | [_], _ => rfl) (fun f cdv A outer s H E hr =>
      dss_one (ds_if (dt_not (dt_val (de_fz (dr_fn C_is_within hr (da_cons (de_var 0) (da_cons (de_int) (da_cons (de_gint M.c_MOST_SLACK) (da_nil)))))))) (dss_one (ds_nev)) (dss_nil)))

abbrev N_are_moved : List Str := ["thing", "one"]
theorem sc_are_moved : FnScope N_are_moved ["thing"] (defScope s_are_moved) := ⟨rfl, rfl, rfl, by decide +kernel, rfl, by decide +kernel, by decide +kernel⟩
theorem ok_are_moved (M : Tx K mg) : CalR P w K mg base 3 "are_moved" 1 F_are_moved := by
  have C_is_within := ok_is_within (P := P) (w := w) (base := base) M
  exact calR_of (N := N_are_moved) (k := 2) (F := b_are_moved) M.d_are_moved sc_are_moved (by decide) (fun _ _ _ _ _ _ us hl => match us, hl with | [_], _ => rfl) (fun f cdv A outer s H E hr =>
      dss_cons (ds_if (dt_w (dw_or (dt_not (dt_val (de_isi M.n_isinstance (de_var 0) M.n_list PyProof.Rows.boot_list))) (dw_or1 (dt_gt hr (de_fz (dr_len M.n_len (da_cons (de_var 0) (da_nil)))) (de_gint M.c_MOST_SEEN))))) (dss_one (ds_ret (dr_sh (de_bl)))) (dss_nil))
      (dss_one (ds_ret (dr_all M.n_all (da_cons (de_fz (dr_lc sc_are_moved.nd (di_seq (de_var 0)) (blkOk_by (own := [("one", 1)]) (N := N_are_moved) (sc := defScope s_are_moved) (by decide +kernel)) (fun _ _ _ _ _ => dg_name 1 sc_are_moved.nd) (fun _ _ _ _ _ => dts_nil) (fun _ _ _ _ _ => de_fz (dr_fn C_is_within hr (da_cons (de_var 1) (da_cons (de_sub (de_int) (de_gint M.c_MOST_TURN)) (da_cons (de_gint M.c_MOST_TURN) (da_nil)))))))) (da_nil))))))

abbrev N_turns_to : List Str := ["slack", "off", "moved", "there"]
theorem sc_turns_to : FnScope N_turns_to ["slack", "off", "moved"] (defScope s_turns_to) := ⟨rfl, rfl, rfl, by decide +kernel, rfl, by decide +kernel, by decide +kernel⟩
theorem ok_turns_to (M : Tx K mg) : CalR P w K mg base 1 "turns_to" 3 F_turns_to := by
  exact calR_of (N := N_turns_to) (k := 0) (F := b_turns_to) M.d_turns_to sc_turns_to (by decide) (fun _ _ _ _ _ _ us hl => match us, hl with | [_, _, _], _ => rfl) (fun f cdv A outer s H E hr =>
      dss_cons (ds_if (dt_gt hr (de_var 2) (de_int)) (dss_one (ds_ret (dr_lst (da_cons (de_tup (da_cons (de_sub (de_add (de_var 2) (de_var 0)) (de_var 1)) (da_cons (de_var 0) (da_nil)))) (da_nil))))) (dss_nil))
      (dss_cons (ds_if (dt_lt hr (de_var 2) (de_int)) (dss_one (ds_ret (dr_lst (da_cons (de_tup (da_cons (de_sub (de_var 2) (de_var 1)) (da_cons (de_int) (da_nil)))) (da_nil))))) (dss_nil))
      (dss_one (ds_ret (dr_lc sc_turns_to.nd (di_rg1 M.n_range (da_cons (de_add (de_var 0) (de_int)) (da_nil))) (blkOk_by (own := [("there", 3)]) (N := N_turns_to) (sc := defScope s_turns_to) (by decide +kernel)) (fun _ _ _ _ _ => dg_name 3 sc_turns_to.nd) (fun _ _ _ _ _ => dts_nil) (fun _ _ _ _ _ => de_tup (da_cons (de_sub (de_var 3) (de_var 1)) (da_cons (de_var 3) (da_nil)))))))))

abbrev N_look_at_moved : List Str := ["slack", "moved"]
theorem sc_look_at_moved : FnScope N_look_at_moved ["slack", "moved"] (defScope s_look_at_moved) := ⟨rfl, rfl, rfl, by decide +kernel, rfl, by decide +kernel, by decide +kernel⟩
theorem ok_look_at_moved (M : Tx K mg) : CalR P w K mg base 4 "look_at_moved" 2 F_look_at_moved := by
  have C_look_at_slack := ok_look_at_slack (P := P) (w := w) (base := base) M
  have C_are_moved := ok_are_moved (P := P) (w := w) (base := base) M
  exact calR_of (N := N_look_at_moved) (k := 3) (F := b_look_at_moved) M.d_look_at_moved sc_look_at_moved (by decide) (fun _ _ _ _ _ _ us hl => match us, hl with | [_, _], _ => rfl) (fun f cdv A outer s H E hr =>
      dss_cons (ds_drop (de_fz (dr_fn C_look_at_slack hr (da_cons (de_var 0) (da_nil)))))
      (dss_one (ds_if (dt_not (dt_val (de_fz (dr_fn C_are_moved hr (da_cons (de_var 1) (da_nil)))))) (dss_one (ds_nev)) (dss_nil))))

abbrev N_turns_seen : List Str := ["slack", "moved", "found", "offs", "one", "some", "off", "row"]
theorem sc_turns_seen : FnScope N_turns_seen ["slack", "moved"] (defScope s_turns_seen) := ⟨rfl, rfl, rfl, by decide +kernel, rfl, by decide +kernel, by decide +kernel⟩
theorem ok_turns_seen (M : Tx K mg) : CalR P w K mg base 5 "turns_seen" 2 F_turns_seen := by
  have C_look_at_moved := ok_look_at_moved (P := P) (w := w) (base := base) M
  have C_turns_to := ok_turns_to (P := P) (w := w) (base := base) M
  exact calR_of (N := N_turns_seen) (k := 4) (F := b_turns_seen) M.d_turns_seen sc_turns_seen (by decide) (fun _ _ _ _ _ _ us hl => match us, hl with | [_, _], _ => rfl) (fun f cdv A outer s H E hr =>
      dss_cons (ds_drop (de_fz (dr_fn C_look_at_moved hr (da_cons (de_var 0) (da_cons (de_var 1) (da_nil))))))
      (dss_cons (ds_set 2 sc_turns_seen.nd (dr_lst (da_nil)))
      (dss_cons (ds_set 3 sc_turns_seen.nd (dr_lrng M.n_list M.n_range (de_add (de_var 0) (de_int))))
      (dss_cons (ds_for (di_seq (de_var 1)) (dg_name 4 sc_turns_seen.nd) (dss_cons (ds_setLc2 5 [7] sc_turns_seen.nd (sw_true rfl rfl rfl (by decide +kernel)) (di_seq (de_var 3)) (blkOk_by (own := [("off", 6), ("row", 7)]) (N := N_turns_seen) (sc := defScope s_turns_seen) (by decide +kernel)) (fun _ _ _ _ _ => dg_name 6 sc_turns_seen.nd) (fun _ _ _ _ _ => dts_nil) (fun _ _ _ _ _ => di_seq (de_fz (dr_fn C_turns_to hr (da_cons (de_var 0) (da_cons (de_var 6) (da_cons (de_var 4) (da_nil))))))) (fun _ _ _ _ _ => dg_name 7 sc_turns_seen.nd) (fun _ _ _ _ _ => dts_nil) (fun _ _ _ _ _ => de_var 7))
      (dss_cons (ds_append 2 (de_tup (da_cons (de_fz (dr_min M.n_min (da_cons (de_fz (dr_lc sc_turns_seen.nd (di_seq (de_var 5)) (blkOk_by (own := [("row", 7)]) (N := N_turns_seen) (sc := defScope s_turns_seen) (by decide +kernel)) (fun _ _ _ _ _ => dg_name 7 sc_turns_seen.nd) (fun _ _ _ _ _ => dts_nil) (fun _ _ _ _ _ => de_ix (de_var 7) (de_int)))) (da_nil)))) (da_cons (de_fz (dr_max M.n_max (da_cons (de_fz (dr_lc sc_turns_seen.nd (di_seq (de_var 5)) (blkOk_by (own := [("row", 7)]) (N := N_turns_seen) (sc := defScope s_turns_seen) (by decide +kernel)) (fun _ _ _ _ _ => dg_name 7 sc_turns_seen.nd) (fun _ _ _ _ _ => dts_nil) (fun _ _ _ _ _ => de_ix (de_var 7) (de_int)))) (da_nil)))) (da_nil)))))
      (dss_one (ds_set 3 sc_turns_seen.nd (dr_sortD M.n_sorted (dr_dc sc_turns_seen.nd (di_seq (de_var 5)) (blkOk_by (own := [("row", 7)]) (N := N_turns_seen) (sc := defScope s_turns_seen) (by decide +kernel)) (fun _ _ _ _ _ => dg_name 7 sc_turns_seen.nd) (fun _ _ _ _ _ => dts_nil) (fun _ _ _ _ _ => de_ix (de_var 7) (de_int)) (fun _ _ _ _ _ => de_bl))))))))
      (dss_one (ds_ret (dr_give 2)))))))

abbrev N_how_many : List Str := ["slack", "moved", "counts", "one", "later", "off", "turns", "there"]
theorem sc_how_many : FnScope N_how_many ["slack", "moved"] (defScope s_how_many) := ⟨rfl, rfl, rfl, by decide +kernel, rfl, by decide +kernel, by decide +kernel⟩
theorem ok_how_many (M : Tx K mg) : CalR P w K mg base 5 "how_many" 2 F_how_many := by
  have C_look_at_moved := ok_look_at_moved (P := P) (w := w) (base := base) M
  have C_turns_to := ok_turns_to (P := P) (w := w) (base := base) M
  exact calR_of (N := N_how_many) (k := 4) (F := b_how_many) M.d_how_many sc_how_many (by decide) (fun _ _ _ _ _ _ us hl => match us, hl with | [_, _], _ => rfl) (fun f cdv A outer s H E hr =>
      dss_cons (ds_drop (de_fz (dr_fn C_look_at_moved hr (da_cons (de_var 0) (da_cons (de_var 1) (da_nil))))))
      (dss_cons (ds_setDc 2 sc_how_many.nd (sw_trueD rfl rfl rfl (by decide +kernel)) (di_rg1 M.n_range (da_cons (de_add (de_var 0) (de_int)) (da_nil))) (blkOk_by (own := [("off", 5)]) (N := N_how_many) (sc := defScope s_how_many) (by decide +kernel)) (fun _ _ _ _ _ => dg_name 5 sc_how_many.nd) (fun _ _ _ _ _ => dts_nil) (fun _ _ _ _ _ => de_var 5) (fun _ _ _ _ _ => de_int))
      (dss_cons (ds_for (di_seq (de_var 1)) (dg_name 3 sc_how_many.nd) (dss_cons (ds_set 4 sc_how_many.nd (dr_dnewK))
      (dss_cons (ds_forD 2 (dg_name 5 sc_how_many.nd) (dss_one (ds_for (di_seq (de_fz (dr_fn C_turns_to hr (da_cons (de_var 0) (da_cons (de_var 5) (da_cons (de_var 3) (da_nil))))))) (dg_tup (dgs_cons (dg_name 6 sc_how_many.nd) (dgs_cons (dg_name 7 sc_how_many.nd) (dgs_nil)))) (dss_one (ds_dput 4 hr (de_var 7) (de_add (de_dget2 4 hr (de_var 7) (de_int) ⟨rfl, rfl, rfl, rfl⟩) (de_dget 2 hr (de_var 5))))))))
      (dss_one (ds_set 2 sc_how_many.nd (dr_give 4))))))
      (dss_one (ds_ret (dr_sh (de_sumV 2 M.n_sum)))))))

abbrev N__law_well : List Str := ["cell", "turn"]
theorem sc__law_well : FnScope N__law_well ["cell", "turn"] (defScope s__law_well) := ⟨rfl, rfl, rfl, by decide +kernel, rfl, by decide +kernel, by decide +kernel⟩
theorem ok__law_well (M : Tx K mg) : CalR P w K mg base 1 "_law_well" 2 F__law_well := by
  exact calR_of (N := N__law_well) (k := 0) (F := b__law_well) M.d__law_well sc__law_well (by decide) (fun _ _ _ _ _ _ us hl => match us, hl with | [_, _], _ => rfl) (fun f cdv A outer s H E hr =>
      dss_cons (ds_if (dt_ge hr (de_var 0) (de_pow (de_int) (de_int))) (dss_one (ds_ret (dr_lst (da_cons (de_sub (de_var 0) (de_pow (de_int) (de_int))) (da_cons (de_mod (de_var 0) (de_int)) (da_cons (de_var 1) (da_nil))))))) (dss_nil))
      (dss_one (ds_ret (dr_lst (da_cons (de_int) (da_cons (de_mod (de_var 0) (de_int)) (da_cons (de_var 1) (da_nil))))))))

abbrev N__law_take : List Str := ["bag", "many", "p", "n", "found"]
theorem sc__law_take : FnScope N__law_take ["bag", "many"] (defScope s__law_take) := ⟨rfl, rfl, rfl, by decide +kernel, rfl, by decide +kernel, by decide +kernel⟩
theorem ok__law_take (M : Tx K mg) : CalB P w K mg base 1 "_law_take" 1 F__law_take := by
  exact calB_of (N := N__law_take) (k := 0) (n := 1) (F := b__law_take) M.d__law_take sc__law_take rfl (by decide) (fun _ _ _ _ _ _ us hl => match us, hl with | [_, _], _ => rfl) (fun f cdv A outer s H E hr =>
      dss_cons (ds_if (dt_gt hr (de_ixO 0 (de_int)) (de_int)) (dss_cons (ds_set 4 sc__law_take.nd (dr_sh (de_mod (de_ixO 0 (de_int)) (de_var 1))))
      (dss_cons (ds_put 0 (de_div (de_ixO 0 (de_int)) (de_var 1)) (de_int))
      (dss_one (ds_ret (dr_sh (de_var 4)))))) (dss_nil))
      (dss_cons (ds_put 0 (de_add (de_ixO 0 (de_int)) (de_int)) (de_int))
      (dss_cons (ds_set 2 sc__law_take.nd (dr_sh (de_int)))
      (dss_cons (ds_set 3 sc__law_take.nd (dr_sh (de_mod (de_add (de_ixO 0 (de_int)) (de_mul (de_int) (de_ixO 0 (de_int)))) (de_var 2))))
      (dss_cons (ds_set 3 sc__law_take.nd (dr_sh (de_mod (de_add (de_add (de_mul (de_var 3) (de_var 3)) (de_mul (de_int) (de_pow (de_ixO 0 (de_int)) (de_int)))) (de_int)) (de_var 2))))
      (dss_one (ds_ret (dr_sh (de_mod (de_div (de_mod (de_pow (de_var 3) (de_int)) (de_var 2)) (de_int)) (de_var 1))))))))))

abbrev N__law_bags : List Str := ["script", "most", "k", "cell"]
theorem sc__law_bags : FnScope N__law_bags ["script", "most"] (defScope s__law_bags) := ⟨rfl, rfl, rfl, by decide +kernel, rfl, by decide +kernel, by decide +kernel⟩
theorem ok__law_bags (M : Tx K mg) : CalBags P w K mg base 2 := by
  have C__law_well := ok__law_well (P := P) (w := w) (base := base) M
  obtain ⟨f, fd, D, g⟩ := M.d__law_bags.ex
  refine ⟨f, fd, ["script", "most"], D.ok sc__law_bags (fun vs H Q E h => ?_) (fun cdv A outer s H vs Q E hr h => ?_), g, D.kp, D.bindsN (fun _ _ _ _ _ _ us hl => match us, hl with | [_, _], _ => rfl)⟩
  · obtain ⟨a, ns, m, rfl, _⟩ := h
    rfl
  · exact ⟨_, PSs.nox (pss_one (ps_ret (pe_lc (own := [("k", 2), ("cell", 3)]) rfl sc__law_bags.nd (pi_enum rfl M.n_enumerate (pa_cons (pe_op op_cat (pe_slice sl_list (pe_var (i := 0) rfl (Or.inl rfl) (by decide) (by decide)) po_none (po_some (pe_var (i := 1) rfl (Or.inl rfl) (by decide) (by decide)))) (pe_lst (pa_cons pe_int pa_nil))) pa_nil))
      (blkOk_by (N := N__law_bags) (sc := defScope s__law_bags) (by decide +kernel)) (fun _ _ _ _ _ => pg_tup rfl (pgs_cons (pg_name sc__law_bags.nd rfl (by first | exact Or.inl rfl | exact Or.inr rfl) (by first | exact .inl rfl | exact .inr rfl)) (pgs_cons (pg_name sc__law_bags.nd rfl (by first | exact Or.inl rfl | exact Or.inr rfl) (by first | exact .inl rfl | exact .inr rfl)) pgs_nil))) (fun _ _ _ _ _ => pts_nil) (fun _ _ _ _ _ => dr_fn C__law_well hr (da_cons (de_var 3) (da_cons (de_mul de_int (de_var 2)) da_nil)))))), bags_reading rfl well_bag h⟩

abbrev N__law_same : List Str := ["a", "b", "x", "y"]
theorem sc__law_same : FnScope N__law_same ["a", "b"] (defScope s__law_same) := ⟨rfl, rfl, rfl, by decide +kernel, rfl, by decide +kernel, by decide +kernel⟩
theorem okn__law_same (M : Tx K mg) : ∀ n, CalR P w K mg base (0 + n) "_law_same" 2 (F__law_same n)
  | 0 => calR_none (k := 0) (ps := ["a", "b"]) M.d__law_same (fun _ _ _ _ _ _ us hl => match us, hl with | [_, _], _ => rfl)
  | n + 1 => by
    have C__law_same := okn__law_same M n
    exact calR_of (N := N__law_same) (k := 0 + n) (F := b__law_same (F__law_same n)) M.d__law_same sc__law_same (by decide) (fun _ _ _ _ _ _ us hl => match us, hl with | [_, _], _ => rfl) (fun f cdv A outer s H E hr =>
      dss_cons (ds_if (dt_w (dw_or (dt_w (dw_and (dt_val (de_isi M.n_isinstance (de_var 0) M.n_list PyProof.Rows.boot_list)) (dw_and1 (dt_val (de_isi M.n_isinstance (de_var 1) M.n_list PyProof.Rows.boot_list))))) (dw_or1 (dt_w (dw_and (dt_val (de_isi M.n_isinstance (de_var 0) M.n_tuple PyProof.Rows.boot_tuple)) (dw_and1 (dt_val (de_isi M.n_isinstance (de_var 1) M.n_tuple PyProof.Rows.boot_tuple)))))))) (dss_one (ds_ret (dr_sh (de_and (de_eq hr (de_fz (dr_len M.n_len (da_cons (de_var 0) (da_nil)))) (de_fz (dr_len M.n_len (da_cons (de_var 1) (da_nil))))) (de_one (de_fz (dr_all M.n_all (da_cons (de_fz (dr_lc sc__law_same.nd (di_zip M.n_zip (da_cons (de_var 0) (da_cons (de_var 1) (da_nil)))) (blkOk_by (own := [("x", 2), ("y", 3)]) (N := N__law_same) (sc := defScope s__law_same) (by decide +kernel)) (fun _ _ _ _ _ => dg_tup (dgs_cons (dg_name 2 sc__law_same.nd) (dgs_cons (dg_name 3 sc__law_same.nd) (dgs_nil)))) (fun _ _ _ _ _ => dts_nil) (fun _ _ _ _ _ => de_fz (dr_fn C__law_same hr (da_cons (de_var 2) (da_cons (de_var 3) (da_nil))) (Nat.le_refl _))))) (da_nil))))))))) (dss_nil))
      (dss_cons (ds_if (dt_w (dw_or (dt_val (de_isiT M.n_isinstance (de_var 0) (pa_ty M.n_bool PyProof.Rows.boot_bool (pa_ty M.n_list PyProof.Rows.boot_list (pa_ty M.n_tuple PyProof.Rows.boot_tuple (pa_ty0)))))) (dw_or1 (dt_val (de_isiT M.n_isinstance (de_var 1) (pa_ty M.n_bool PyProof.Rows.boot_bool (pa_ty M.n_list PyProof.Rows.boot_list (pa_ty M.n_tuple PyProof.Rows.boot_tuple (pa_ty0))))))))) (dss_one (ds_ret (dr_sh (de_and (de_isi M.n_isinstance (de_var 0) M.n_bool PyProof.Rows.boot_bool) (de_and (de_isi M.n_isinstance (de_var 1) M.n_bool PyProof.Rows.boot_bool) (de_one (de_eq hr (de_var 0) (de_var 1)))))))) (dss_nil))
      (dss_cons (ds_if (dt_w (dw_or (dt_val (de_isi M.n_isinstance (de_var 0) M.n_int PyProof.Rows.boot_int)) (dw_or1 (dt_val (de_isi M.n_isinstance (de_var 1) M.n_int PyProof.Rows.boot_int))))) (dss_one (ds_ret (dr_sh (de_and (de_isi M.n_isinstance (de_var 0) M.n_int PyProof.Rows.boot_int) (de_and (de_isi M.n_isinstance (de_var 1) M.n_int PyProof.Rows.boot_int) (de_one (de_eq hr (de_var 0) (de_var 1)))))))) (dss_nil))
      (dss_cons (ds_if (dt_w (dw_or (dt_val (de_isi M.n_isinstance (de_var 0) M.n_str PyProof.Rows.boot_str)) (dw_or1 (dt_val (de_isi M.n_isinstance (de_var 1) M.n_str PyProof.Rows.boot_str))))) (dss_one (ds_ret (dr_sh (de_and (de_isi M.n_isinstance (de_var 0) M.n_str PyProof.Rows.boot_str) (de_and (de_isi M.n_isinstance (de_var 1) M.n_str PyProof.Rows.boot_str) (de_one (de_eq hr (de_var 0) (de_var 1)))))))) (dss_nil))
      (dss_one (ds_ret (dr_sh (de_and (de_isN (de_var 0)) (de_one (de_isN (de_var 1)))))))))))
theorem ok__law_same (M : Tx K mg) : CalR P w K mg base 8 "_law_same" 2 (F__law_same 8) := okn__law_same M 8

abbrev N__law_rows : List Str := ["slack", "moved", "found", "far", "longer", "off", "row", "there"]
theorem sc__law_rows : FnScope N__law_rows ["slack", "moved"] (defScope s__law_rows) := ⟨rfl, rfl, rfl, by decide +kernel, rfl, by decide +kernel, by decide +kernel⟩
theorem ok__law_rows (M : Tx K mg) : CalR P w K mg base 1 "_law_rows" 2 F__law_rows := by
  exact calR_of (N := N__law_rows) (k := 0) (F := b__law_rows) M.d__law_rows sc__law_rows (by decide) (fun _ _ _ _ _ _ us hl => match us, hl with | [_, _], _ => rfl) (fun f cdv A outer s H E hr =>
      dss_cons (ds_setLc 2 sc__law_rows.nd (sw_true rfl rfl rfl (by decide +kernel)) (di_rg1 M.n_range (da_cons (de_add (de_var 0) (de_int)) (da_nil))) (blkOk_by (own := [("off", 5)]) (N := N__law_rows) (sc := defScope s__law_rows) (by decide +kernel)) (fun _ _ _ _ _ => dg_name 5 sc__law_rows.nd) (fun _ _ _ _ _ => dts_nil) (fun _ _ _ _ _ => de_tup (da_cons (de_var 5) (da_cons (de_fz (dr_lst (da_nil))) (da_nil)))))
      (dss_cons (ds_for (di_seq (de_var 1)) (dg_name 3 sc__law_rows.nd) (dss_cons (ds_set 4 sc__law_rows.nd (dr_lst (da_nil)))
      (dss_cons (ds_for (di_seq (de_var 2)) (dg_tup (dgs_cons (dg_name 5 sc__law_rows.nd) (dgs_cons (dg_name 6 sc__law_rows.nd) (dgs_nil)))) (dss_one (ds_if (dt_eq hr (de_var 3) (de_int)) (dss_one (ds_set 4 sc__law_rows.nd (dr_cat (de_var 4) (de_fz (dr_lc sc__law_rows.nd (di_rg1 M.n_range (da_cons (de_add (de_var 0) (de_int)) (da_nil))) (blkOk_by (own := [("there", 7)]) (N := N__law_rows) (sc := defScope s__law_rows) (by decide +kernel)) (fun _ _ _ _ _ => dg_name 7 sc__law_rows.nd) (fun _ _ _ _ _ => dts_nil) (fun _ _ _ _ _ => de_tup (da_cons (de_var 7) (da_cons (de_add (de_var 6) (de_fz (dr_lst (da_cons (de_sub (de_var 7) (de_var 5)) (da_nil))))) (da_nil))))))))) (dss_one (ds_if (dt_gt hr (de_var 3) (de_int)) (dss_one (ds_append 4 (de_tup (da_cons (de_var 0) (da_cons (de_add (de_var 6) (de_fz (dr_lst (da_cons (de_sub (de_add (de_var 3) (de_var 0)) (de_var 5)) (da_nil))))) (da_nil)))))) (dss_one (ds_append 4 (de_tup (da_cons (de_int) (da_cons (de_add (de_var 6) (de_fz (dr_lst (da_cons (de_sub (de_var 3) (de_var 5)) (da_nil))))) (da_nil)))))))))))
      (dss_one (ds_set 2 sc__law_rows.nd (dr_give 4))))))
      (dss_one (ds_ret (dr_sh (de_var 2))))))

abbrev N__law_many : List Str := ["slack", "moved", "counts", "far", "whole", "off"]
theorem sc__law_many : FnScope N__law_many ["slack", "moved"] (defScope s__law_many) := ⟨rfl, rfl, rfl, by decide +kernel, rfl, by decide +kernel, by decide +kernel⟩
theorem ok__law_many (M : Tx K mg) : CalR P w K mg base 1 "_law_many" 2 F__law_many := by
  exact calR_of (N := N__law_many) (k := 0) (F := b__law_many) M.d__law_many sc__law_many (by decide) (fun _ _ _ _ _ _ us hl => match us, hl with | [_, _], _ => rfl) (fun f cdv A outer s H E hr =>
      dss_cons (ds_set 2 sc__law_many.nd (dr_sh (de_mul (de_fz (dr_lst (da_cons (de_int) (da_nil)))) (de_add (de_var 0) (de_int)))))
      (dss_cons (ds_for (di_seq (de_var 1)) (dg_name 3 sc__law_many.nd) (dss_cons (ds_set 4 sc__law_many.nd (dr_sum M.n_sum (da_cons (de_var 2) (da_nil))))
      (dss_one (ds_if (dt_eq hr (de_var 3) (de_int)) (dss_one (ds_set 2 sc__law_many.nd (dr_sh (de_mul (de_fz (dr_lst (da_cons (de_var 4) (da_nil)))) (de_add (de_var 0) (de_int)))))) (dss_one (ds_setLc 2 sc__law_many.nd (sw_true rfl rfl rfl (by decide +kernel)) (di_rg1 M.n_range (da_cons (de_add (de_var 0) (de_int)) (da_nil))) (blkOk_by (own := [("off", 5)]) (N := N__law_many) (sc := defScope s__law_many) (by decide +kernel)) (fun _ _ _ _ _ => dg_name 5 sc__law_many.nd) (fun _ _ _ _ _ => dts_nil) (fun _ _ _ _ _ => de_mul (de_var 4) (de_fz (dr_int M.n_int (da_cons (de_eq hr (de_var 5) (de_if (dt_gt hr (de_var 3) (de_int)) (de_var 0) (de_int))) (da_nil)))))))))))
      (dss_one (ds_ret (dr_sum M.n_sum (da_cons (de_var 2) (da_nil)))))))

abbrev N_law : List Str := ["script", "bag", "slack", "little", "turn", "rows", "ends", "k", "off", "moved", "made", "told1", "many", "column", "wide", "turns", "there", "row"]
theorem sc_law : FnScope N_law ["script"] (defScope s_law) := ⟨rfl, rfl, rfl, by decide +kernel, rfl, by decide +kernel, by decide +kernel⟩
theorem ok_law (M : Tx K mg) : ∃ f fd, mg "law" = some (.ref f) ∧ (∀ (s : Shared) (v : Value), BindsTo s fd ⟨[v], []⟩ [("script", v)]) ∧ ∀ base : Heap, FnOk P w K mg base CX0 9 f fd ["script"] (spLaw K) := by
  obtain ⟨f, fd, D, g⟩ := M.d_law.ex
  have b := D.bindsA (ps := ["script"]) fun _ _ _ _ _ _ us hl => match us, hl with | [_], _ => rfl
  refine ⟨f, fd, g, fun s v => b s [v] rfl, fun base => ?_⟩
  have C__law_bags := ok__law_bags (P := P) (w := w) (base := base) M
  have C__law_take := ok__law_take (P := P) (w := w) (base := base) M
  have C__law_rows := ok__law_rows (P := P) (w := w) (base := base) M
  have C_turns_seen := ok_turns_seen (P := P) (w := w) (base := base) M
  have C_how_many := ok_how_many (P := P) (w := w) (base := base) M
  have C__law_same := ok__law_same (P := P) (w := w) (base := base) M
  have C__law_many := ok__law_many (P := P) (w := w) (base := base) M
  refine D.ok sc_law (fun vs H Q E h => ?_) (fun cdv A outer s H vs Q E hr h => ?_)
  · obtain ⟨a, ns, rfl, _⟩ := h
    rfl
  · refine ⟨tLaw K 6 1 fNext b_main, PSs.nox ?_, law_reading (N := N_law) (n := 18) (m := 6) (ib := 1) (Fp := fNext) (Fm := b_main) (by decide) (by decide) (by decide) (by decide) law_ok h⟩
    exact pre_done (pss_cons (ps_main 1 (m := 6) (F := b_main) C__law_bags hr (dss_cons (ds_set 2 sc_law.nd (dr_fnB 1 C__law_take hr (da_cons (de_int) (da_nil))))
      (dss_cons (ds_set 3 sc_law.nd (dr_lst (da_nil)))
      (dss_cons (ds_for (di_rg1 M.n_range (da_cons (de_fz (dr_fnB 1 C__law_take hr (da_cons (de_int) (da_nil)))) (da_nil))) (dg_name 4 sc_law.nd) (dss_one (ds_append 3 (de_ix (de_fz (dr_lst (da_cons (de_int) (da_cons (de_int) (da_cons (de_add (de_int) (de_fz (dr_fnB 1 C__law_take hr (da_cons (de_int) (da_nil))))) (da_cons (de_sub (de_neg (de_int)) (de_fz (dr_fnB 1 C__law_take hr (da_cons (de_int) (da_nil))))) (da_nil))))))) (de_fz (dr_fnB 1 C__law_take hr (da_cons (de_int) (da_nil))))))))
      (dss_cons (ds_set 5 sc_law.nd (dr_fn C__law_rows hr (da_cons (de_var 2) (da_cons (de_var 3) (da_nil)))))
      (dss_cons (ds_set 6 sc_law.nd (dr_lst (da_nil)))
      (dss_cons (ds_for (di_rg1 M.n_range (da_cons (de_fz (dr_len M.n_len (da_cons (de_var 3) (da_nil)))) (da_nil))) (dg_name 7 sc_law.nd) (dss_cons (ds_set 13 sc_law.nd (dr_sorted M.n_sorted (da_cons (de_fz (dr_lc sc_law.nd (di_seq (de_var 5)) (blkOk_by (own := [("off", 8), ("row", 17)]) (N := N_law) (sc := defScope s_law) (by decide +kernel)) (fun _ _ _ _ _ => dg_tup (dgs_cons (dg_name 8 sc_law.nd) (dgs_cons (dg_name 17 sc_law.nd) (dgs_nil)))) (fun _ _ _ _ _ => dts_nil) (fun _ _ _ _ _ => de_ix (de_var 17) (de_var 7)))) (da_nil))))
      (dss_one (ds_append 6 (de_tup (da_cons (de_ix (de_var 13) (de_int)) (da_cons (de_ix (de_var 13) (de_neg (de_int))) (da_nil))))))))
      (dss_cons (ds_if (dt_w (dw_or (dt_not (dt_val (de_fz (dr_fn C__law_same hr (da_cons (de_fz (dr_fn C_turns_seen hr (da_cons (de_var 2) (da_cons (de_var 3) (da_nil))))) (da_cons (de_var 6) (da_nil))))))) (dw_or1 (dt_not (dt_val (de_fz (dr_fn C__law_same hr (da_cons (de_fz (dr_fn C_how_many hr (da_cons (de_var 2) (da_cons (de_var 3) (da_nil))))) (da_cons (de_fz (dr_len M.n_len (da_cons (de_var 5) (da_nil)))) (da_nil)))))))))) (dss_one (ds_ret (dr_sh (de_bl)))) (dss_nil))
      (dss_cons (ds_set 2 sc_law.nd (dr_fnB 1 C__law_take hr (da_cons (de_int) (da_nil))))
      (dss_cons (ds_par3 8 9 10 sc_law.nd (dar_cons (dr_fnB 1 C__law_take hr (da_cons (de_add (de_var 2) (de_int)) (da_nil))) (dar_cons (dr_lst (da_nil)) (dar_cons (dr_lst (da_nil)) (dar_nil)))) rfl)
      (dss_cons (ds_for (di_rg1 M.n_range (da_cons (de_fz (dr_fnB 1 C__law_take hr (da_cons (de_int) (da_nil)))) (da_nil))) (dg_name 4 sc_law.nd) (dss_cons (ds_set 14 sc_law.nd (dr_sh (de_ix (de_fz (dr_lst (da_cons (de_pow (de_int) (de_int)) (da_cons (de_int) (da_cons (de_int) (da_nil)))))) (de_fz (dr_fnB 1 C__law_take hr (da_cons (de_int) (da_nil)))))))
      (dss_cons (ds_set 15 sc_law.nd (dr_sh (de_sub (de_fz (dr_fnB 1 C__law_take hr (da_cons (de_add (de_mul (de_int) (de_var 14)) (de_int)) (da_nil)))) (de_var 14))))
      (dss_cons (ds_set 16 sc_law.nd (dr_sh (de_ix (de_fz (dr_sorted M.n_sorted (da_cons (de_fz (dr_lst (da_cons (de_sub (de_add (de_var 8) (de_var 15)) (de_var 2)) (da_cons (de_int) (da_cons (de_add (de_var 8) (de_var 15)) (da_nil)))))) (da_nil)))) (de_int))))
      (dss_cons (ds_set 8 sc_law.nd (dr_sh (de_sub (de_add (de_var 8) (de_var 15)) (de_var 16))))
      (dss_one (ds_par2 9 10 sc_law.nd (dar_cons (dr_sh (de_add (de_var 9) (de_fz (dr_lst (da_cons (de_var 16) (da_nil)))))) (dar_cons (dr_sh (de_add (de_var 10) (de_fz (dr_lst (da_cons (de_var 15) (da_nil)))))) (dar_nil))) rfl)))))))
      (dss_cons (ds_set 11 sc_law.nd (dr_fn C_turns_seen hr (da_cons (de_var 2) (da_cons (de_var 9) (da_nil)))))
      (dss_cons (ds_if (dt_ne hr (de_fz (dr_lc sc_law.nd (di_enum M.n_enumerate (da_cons (de_var 10) (da_nil))) (blkOk_by (own := [("k", 7), ("turns", 15)]) (N := N_law) (sc := defScope s_law) (by decide +kernel)) (fun _ _ _ _ _ => dg_tup (dgs_cons (dg_name 7 sc_law.nd) (dgs_cons (dg_name 15 sc_law.nd) (dgs_nil)))) (fun _ _ _ _ _ => dts_one (dt_not (dt_leLe hr (de_ix (de_ix (de_var 11) (de_var 7)) (de_int)) (de_var 15) (de_ix (de_ix (de_var 11) (de_var 7)) (de_int))))) (fun _ _ _ _ _ => de_var 7))) (de_fz (dr_lst (da_nil)))) (dss_one (ds_ret (dr_sh (de_bl)))) (dss_nil))
      (dss_cons (ds_set 12 sc_law.nd (dr_fn C_how_many hr (da_cons (de_var 2) (da_cons (de_var 9) (da_nil)))))
      (dss_cons (ds_if (dt_w (dw_or (dt_not (dt_val (de_fz (dr_fn C__law_same hr (da_cons (de_var 12) (da_cons (de_fz (dr_fn C__law_many hr (da_cons (de_var 2) (da_cons (de_var 9) (da_nil))))) (da_nil))))))) (dw_or1 (dt_ne hr (de_fz (dr_fn C_how_many hr (da_cons (de_var 2) (da_cons (de_add (de_var 9) (de_fz (dr_lst (da_cons (de_int) (da_nil))))) (da_nil))))) (de_mul (de_var 12) (de_add (de_var 2) (de_int))))))) (dss_one (ds_ret (dr_sh (de_bl)))) (dss_nil))
      (dss_one (ds_if (dt_w (dw_or (dt_ne hr (de_fz (dr_fn C_how_many hr (da_cons (de_var 2) (da_cons (de_add (de_var 9) (de_fz (dr_lst (da_cons (de_int) (da_nil))))) (da_nil))))) (de_var 12)) (dw_or1 (dt_ne hr (de_fz (dr_fn C_how_many hr (da_cons (de_var 2) (da_cons (de_add (de_var 9) (de_fz (dr_lst (da_cons (de_neg (de_int)) (da_nil))))) (da_nil))))) (de_var 12))))) (dss_one (ds_ret (dr_sh (de_bl)))) (dss_nil))))))))))))))))) sc_law.nd) (pss_one (ds_ret (dr_sh de_bl))))

end
def q_is_whole : He.DefD := ⟨("is_whole", none), "is_whole", "is_whole", defArgs s_is_whole, defBody s_is_whole, defScope s_is_whole, [], []⟩
def q_is_within : He.DefD := ⟨("is_within", none), "is_within", "is_within", defArgs s_is_within, defBody s_is_within, defScope s_is_within, [], []⟩
def q_look_at_slack : He.DefD := ⟨("look_at_slack", none), "look_at_slack", "look_at_slack", defArgs s_look_at_slack, defBody s_look_at_slack, defScope s_look_at_slack, [], []⟩
def q_are_moved : He.DefD := ⟨("are_moved", none), "are_moved", "are_moved", defArgs s_are_moved, defBody s_are_moved, defScope s_are_moved, [], []⟩
def q_turns_to : He.DefD := ⟨("turns_to", none), "turns_to", "turns_to", defArgs s_turns_to, defBody s_turns_to, defScope s_turns_to, [], []⟩
def q_look_at_moved : He.DefD := ⟨("look_at_moved", none), "look_at_moved", "look_at_moved", defArgs s_look_at_moved, defBody s_look_at_moved, defScope s_look_at_moved, [], []⟩
def q_turns_seen : He.DefD := ⟨("turns_seen", none), "turns_seen", "turns_seen", defArgs s_turns_seen, defBody s_turns_seen, defScope s_turns_seen, [], []⟩
def q_how_many : He.DefD := ⟨("how_many", none), "how_many", "how_many", defArgs s_how_many, defBody s_how_many, defScope s_how_many, [], []⟩
def q__law_well : He.DefD := ⟨("_law_well", none), "_law_well", "_law_well", defArgs s__law_well, defBody s__law_well, defScope s__law_well, [], []⟩
def q__law_take : He.DefD := ⟨("_law_take", none), "_law_take", "_law_take", defArgs s__law_take, defBody s__law_take, defScope s__law_take, [], []⟩
def q__law_bags : He.DefD := ⟨("_law_bags", none), "_law_bags", "_law_bags", defArgs s__law_bags, defBody s__law_bags, defScope s__law_bags, [], []⟩
def q__law_same : He.DefD := ⟨("_law_same", none), "_law_same", "_law_same", defArgs s__law_same, defBody s__law_same, defScope s__law_same, [], []⟩
def q__law_rows : He.DefD := ⟨("_law_rows", none), "_law_rows", "_law_rows", defArgs s__law_rows, defBody s__law_rows, defScope s__law_rows, [], []⟩
def q__law_many : He.DefD := ⟨("_law_many", none), "_law_many", "_law_many", defArgs s__law_many, defBody s__law_many, defScope s__law_many, [], []⟩
def q_law : He.DefD := ⟨("law", none), "law", "law", defArgs s_law, defBody s_law, defScope s_law, [], []⟩
def fn : List He.DefD := ([q_is_whole, q_is_within, q_look_at_slack, q_are_moved, q_turns_to, q_look_at_moved, q_turns_seen, q_how_many] : List He.DefD) ++ ([q__law_well, q__law_take, q__law_bags, q__law_same, q__law_rows, q__law_many, q_law] : List He.DefD)
def fa : List He.Fa := ([.glo "is_whole", .glo "is_within", .glo "look_at_slack", .glo "are_moved", .glo "turns_to", .glo "look_at_moved", .glo "turns_seen", .glo "how_many"] : List He.Fa) ++ ([.glo "_law_well", .glo "_law_take", .glo "_law_bags", .glo "_law_same", .glo "_law_rows", .glo "_law_many", .glo "law", .int "MOST_SLACK" 20] : List He.Fa) ++ ([.int "MOST_TURN" 1000000000000, .int "MOST_SEEN" 40, .free "isinstance", .free "len", .free "all", .free "range", .free "zip", .free "tuple"] : List He.Fa) ++ ([.free "list", .free "sorted", .free "enumerate", .free "sum", .free "min", .free "max", .free "bool", .free "int"] : List He.Fa) ++ ([.free "str"] : List He.Fa)
abbrev R : PySem.W.OpenRow := PySem.W.OpenLaw.row PySem.Challenge.rw_slackpen_k09_whole_turns_that_can_have_b
abbrev hk : PySem.W.Hook := He.hookD 4 fa fn
def ob (s : PySem.W.SharedT) : He.AlD := He.obsDG 4 fa fn (HandSHeadRun.getT s)
theorem ob_eq (s : PySem.W.SharedT) : ob s = hk.obs s.abs := He.obsDG_eq (HandSHeadRun.getT_eq s)
def loose : List PySem.Str := (["is_whole", "is_within", "look_at_slack", "are_moved", "turns_to", "look_at_moved", "turns_seen", "how_many"] : List PySem.Str) ++ (["_law_well", "_law_take", "_law_bags", "_law_same", "_law_rows", "_law_many", "PenError", "NoSlack"] : List PySem.Str) ++ (["NoSeen", "MOST_SLACK", "MOST_TURN", "MOST_SEEN"] : List PySem.Str)
theorem run (w : World) : HandSHeadRun.RunEq R (PySem.W.view R.prog [24]) hk ob 4000 loose w := by
  intro os
  kernel_rfl
theorem tx_of {K : PySem.W.Frag} {h : Heap} {mg : Str → Option Value} (X : K.In h) (G : h.Ns mainGlobals mg) (c : He.SaysD fa fn K) : Tx K mg := by
  refine ⟨?_, ?_, ?_, ?_, ?_, ?_, ?_, ?_, ?_, ?_, ?_, ?_, ?_, ?_, ?_, ?_, ?_, ?_, ?_, ?_, ?_, ?_, ?_, ?_, ?_, ?_, ?_, ?_, ?_, ?_, ?_, ?_, ?_⟩
  · exact He.free_ok X G (c.fact 18 (f := .free "isinstance") rfl)
  · exact He.free_ok X G (c.fact 19 (f := .free "len") rfl)
  · exact He.free_ok X G (c.fact 20 (f := .free "all") rfl)
  · exact He.free_ok X G (c.fact 21 (f := .free "range") rfl)
  · exact He.free_ok X G (c.fact 22 (f := .free "zip") rfl)
  · exact He.free_ok X G (c.fact 23 (f := .free "tuple") rfl)
  · exact He.free_ok X G (c.fact 24 (f := .free "list") rfl)
  · exact He.free_ok X G (c.fact 25 (f := .free "sorted") rfl)
  · exact He.free_ok X G (c.fact 26 (f := .free "enumerate") rfl)
  · exact He.free_ok X G (c.fact 27 (f := .free "sum") rfl)
  · exact He.free_ok X G (c.fact 28 (f := .free "min") rfl)
  · exact He.free_ok X G (c.fact 29 (f := .free "max") rfl)
  · exact He.free_ok X G (c.fact 30 (f := .free "bool") rfl)
  · exact He.free_ok X G (c.fact 31 (f := .free "int") rfl)
  · exact He.free_ok X G (c.fact 32 (f := .free "str") rfl)
  · exact He.int_ok X G (c.fact 15 (f := .int "MOST_SLACK" 20) rfl)
  · exact He.int_ok X G (c.fact 16 (f := .int "MOST_TURN" 1000000000000) rfl)
  · exact He.int_ok X G (c.fact 17 (f := .int "MOST_SEEN" 40) rfl)
  · obtain ⟨fd, F⟩ := c.def_ 0 (d := q_is_whole) rfl
    exact ⟨_, fd, F, He.glo_ok X G (c.fact 0 (f := .glo "is_whole") rfl)⟩
  · obtain ⟨fd, F⟩ := c.def_ 1 (d := q_is_within) rfl
    exact ⟨_, fd, F, He.glo_ok X G (c.fact 1 (f := .glo "is_within") rfl)⟩
  · obtain ⟨fd, F⟩ := c.def_ 2 (d := q_look_at_slack) rfl
    exact ⟨_, fd, F, He.glo_ok X G (c.fact 2 (f := .glo "look_at_slack") rfl)⟩
  · obtain ⟨fd, F⟩ := c.def_ 3 (d := q_are_moved) rfl
    exact ⟨_, fd, F, He.glo_ok X G (c.fact 3 (f := .glo "are_moved") rfl)⟩
  · obtain ⟨fd, F⟩ := c.def_ 4 (d := q_turns_to) rfl
    exact ⟨_, fd, F, He.glo_ok X G (c.fact 4 (f := .glo "turns_to") rfl)⟩
  · obtain ⟨fd, F⟩ := c.def_ 5 (d := q_look_at_moved) rfl
    exact ⟨_, fd, F, He.glo_ok X G (c.fact 5 (f := .glo "look_at_moved") rfl)⟩
  · obtain ⟨fd, F⟩ := c.def_ 6 (d := q_turns_seen) rfl
    exact ⟨_, fd, F, He.glo_ok X G (c.fact 6 (f := .glo "turns_seen") rfl)⟩
  · obtain ⟨fd, F⟩ := c.def_ 7 (d := q_how_many) rfl
    exact ⟨_, fd, F, He.glo_ok X G (c.fact 7 (f := .glo "how_many") rfl)⟩
  · obtain ⟨fd, F⟩ := c.def_ 8 (d := q__law_well) rfl
    exact ⟨_, fd, F, He.glo_ok X G (c.fact 8 (f := .glo "_law_well") rfl)⟩
  · obtain ⟨fd, F⟩ := c.def_ 9 (d := q__law_take) rfl
    exact ⟨_, fd, F, He.glo_ok X G (c.fact 9 (f := .glo "_law_take") rfl)⟩
  · obtain ⟨fd, F⟩ := c.def_ 10 (d := q__law_bags) rfl
    exact ⟨_, fd, F, He.glo_ok X G (c.fact 10 (f := .glo "_law_bags") rfl)⟩
  · obtain ⟨fd, F⟩ := c.def_ 11 (d := q__law_same) rfl
    exact ⟨_, fd, F, He.glo_ok X G (c.fact 11 (f := .glo "_law_same") rfl)⟩
  · obtain ⟨fd, F⟩ := c.def_ 12 (d := q__law_rows) rfl
    exact ⟨_, fd, F, He.glo_ok X G (c.fact 12 (f := .glo "_law_rows") rfl)⟩
  · obtain ⟨fd, F⟩ := c.def_ 13 (d := q__law_many) rfl
    exact ⟨_, fd, F, He.glo_ok X G (c.fact 13 (f := .glo "_law_many") rfl)⟩
  · obtain ⟨fd, F⟩ := c.def_ 14 (d := q_law) rfl
    exact ⟨_, fd, F, He.glo_ok X G (c.fact 14 (f := .glo "law") rfl)⟩

end G
open PySem PySem.W PySem.Calls PyProof.Rows
theorem PySem.Challenge.cw_slackpen_k09_whole_turns_that_can_have_b_holds : PySem.Challenge.rw_slackpen_k09_whole_turns_that_can_have_b.Holds := by
  w_on; o_law
  refine HandSHeadRun.head_any (r := G.R) (q := view G.R.prog [24])
    (H := G.hk) (ob := G.ob) (M := 4000) (loose := G.loose)
    (d := HandSHeadRun.topDef G.R.prog 24) (kwd := []) G.ob_eq
    (by kernel_rfl) (fun s => by kernel_rfl) G.run (by kernel_rfl)
    (by kernel_rfl) (by kernel_rfl) (by rfl) (by first | assumption | decide +kernel)
    (by decide +kernel) ⟨rfl, rfl, rfl, rfl, rfl, by decide +kernel⟩ ?hw ?hc
  case hw => w_witness2
  case hc =>
    refine L2.walk_ofE (l := PySem.Challenge.rw_slackpen_k09_whole_turns_that_can_have_b) (n := 63) (k := 9)
      (x := "script") (CX := L2.CX0) rfl (by decide) (by kernel_rfl)
      ⟨rfl, by decide, by decide⟩ ?F (fun _ _ _ _ z => z)
    intro w mg fa h Y Gn hmg0
    obtain ⟨K, KX, c⟩ := Y
    have hmg : mg ("law" : PySem.Str) = some (.ref fa) := by
      have e : (HandSHeadRun.topDef G.R.prog 24).name = ("law" : PySem.Str) := by kernel_rfl
      exact e ▸ hmg0
    obtain ⟨f, fd, e1, hb, hF⟩ := G.ok_law (P := (PySem.Challenge.rw_slackpen_k09_whole_turns_that_can_have_b).prog) (w := w) (G.tx_of KX Gn c)
    have e2 : f = fa := by
      have e3 := e1.symm.trans hmg
      cases e3
      rfl
    subst e2
    exact ⟨K, fd, G.spLaw K, KX, hb, fun H a ns hl _ hS => ⟨a, ns, rfl, hS, hl, fun _ => rfl⟩, fun base _ _ => hF base⟩
